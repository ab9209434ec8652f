import PyProof.Rows.All
import Wide.All
import OpenK.AllK
import Wide.FinOn
import HandS.ForMost
import HandS.Exc
import HandS.WordsExc
import HandS.Walk
import HandS.RaiseMore
import HandS.Replace
import HandS.CallSlots
import HandS.Flow
import KE.GoesEnumKw
import HandS.TupAny
import HandS.Ends
import HandS.IsInst
import HandS.Style
import HandS.Text
import HandS.Steps
import HandS.SetKeys
import KE.GoesEnum
import HandS.FStrTup
import HandS.SortInts
import HandS.More
import HandS.Defaults
import HandS.Zip
import HandS.Iter
import HandS.DictComp
import HandS.Conv
import PyProof.FactsAll.list_3
import HandS.ExcIs
import HandS.ExcValue
import HandS.ExcInit
import PySem.Challenge.RW_roadbundle_k09_joiners_refuse
set_option Elab.async false
set_option linter.all false
set_option maxRecDepth 100000
set_option maxHeartbeats 4000000
namespace Mi
open PySem PySem.Spec PyProof.Rows L2

/-! the mini values -/
inductive MV where
  | non | bl (b : Bool) | int (i : Int) | str (s : List Nat)
  | tup (xs : List MV) | lst (xs : List MV) | dct (ks vs : List MV)
  | ref (n : Nat)
  deriving Inhabited
/-- a container's content -/
inductive C where
  | lst (xs : List MV) | dict (kvs : List (MV × MV)) | lock (kvs : List (MV × MV))
  deriving Inhabited
/-- a dict that is being walked: read, not written -/
def isLk : C → Bool
  | .lock _ => true
  | _ => false
@[simp] theorem isLk_lst {xs : List MV} : isLk (.lst xs) = false := rfl
@[simp] theorem isLk_dict {kvs : List (MV × MV)} : isLk (.dict kvs) = false := rfl
@[simp] theorem isLk_lock {kvs : List (MV × MV)} : isLk (.lock kvs) = true := rfl
inductive SV where
  | v (x : MV) | own (c : C)
  deriving Inhabited
inductive RV where
  | v (x : MV) | own (c : C) | loc (i : Nat) | fld (n f : Nat)
  deriving Inhabited
inductive MO where
  | inst (c : Nat) (fs : List (Option SV)) | box (c : C) | exc (c : Nat)
  deriving Inhabited
/-- a caught exception, tracked: of the class cls, its dict d -/
def ExK (cls : Value) (d : Option Addr) (a : Addr) : HO := .ext fun h => ∃ (oe : Obj) (vs : Array Value), h.get? a = some oe ∧ Zc cls d oe ∧ oe.data = .fields vs
structure MS where
  env : List (Option SV)
  hp : List MO
  base : Nat
inductive Out (α : Type) where
  | ok (a : α) (s : MS) | exc (c : Nat) (xs : List MV) (s : MS) | bad
namespace Out
def bind {α β : Type} (o : Out α) (k : α → MS → Out β) : Out β := match o with
  | .ok a s => k a s | .exc c xs s => .exc c xs s | .bad => .bad
@[simp] theorem bind_ok {α β : Type} (a : α) (s : MS) (k : α → MS → Out β) : (Out.ok a s).bind k = k a s := rfl
@[simp] theorem bind_exc {α β : Type} (c : Nat) (xs : List MV) (s : MS) (k : α → MS → Out β) : (Out.exc c xs s : Out α).bind k = .exc c xs s := rfl
@[simp] theorem bind_bad {α β : Type} (k : α → MS → Out β) : (Out.bad : Out α).bind k = .bad := rfl
end Out
/-- what a function gives -/
inductive FR where
  | v (x : MV) | own (c : C)
  deriving Inhabited
inductive FOut where
  | ok (r : FR) (hp : List MO) | exc (c : Nat) (xs : List MV) (hp : List MO) | bad
abbrev ME := MS → Out RV
abbrev Fn := List MV → List MO → FOut

/-! roles -/
inductive Role where
  | frz | obj (n : Nat) | fld (n f : Nat) | loc (i : Nat)
  deriving DecidableEq
abbrev Gh := Addr → Option Role
def setG (G : Gh) (a : Addr) (r : Option Role) : Gh := fun b => if b = a then r else G b
theorem setG_same {G : Gh} {a : Addr} {r : Option Role} : setG G a r a = r := if_pos rfl
theorem setG_ne {G : Gh} {a b : Addr} {r : Option Role} (h : b ≠ a) : setG G a r b = G b := if_neg h

structure RC where
  K : PySem.W.Frag
  cls : Nat → Addr
  flds : Nat → List Str
  exA : Nat → Addr
  exF : Nat → List Str

/-! relations of values -/
def KtT (K : PySem.W.Frag) (a : Addr) (xs : List V) : Prop :=
  ∃ (o : Obj) (its : Array Value) (n : Nat), K.lookup a = some o ∧ o.cls = .type "tuple" ∧ o.data = .seq its n ∧ its.size ≤ sizeLine ∧ Vals xs its.toList
def KtL (K : PySem.W.Frag) (a : Addr) (xs : List V) : Prop :=
  ∃ (o : Obj) (its : Array Value) (n : Nat), K.lookup a = some o ∧ o.cls = .type "list" ∧ o.dict = none ∧ o.data = .seq its n ∧ its.size ≤ sizeLine ∧ Vals xs its.toList
def FzL (K : PySem.W.Frag) (G : Gh) (H : Hp) (a : Addr) (xs : List V) : Prop := (G a = some .frz ∧ Rd H a (.lst xs)) ∨ KtL K a xs
def FzT (K : PySem.W.Frag) (G : Gh) (H : Hp) (a : Addr) (xs : List V) : Prop := (G a = some .frz ∧ Rd H a (.tup xs)) ∨ KtT K a xs
def keyMV : Key → MV
  | .inl i => .int i
  | .inr x => .str x.cps.toList
def DRx (ks : List MV) (P : List V → Prop) (ho : HO) : Prop :=
  ∃ dk, ho = .dK dk ∧ ks = dk.map (fun q => keyMV q.1) ∧ P (dk.map (·.2))
mutual
def VR (K : PySem.W.Frag) (G : Gh) (H : Hp) : MV → V → Prop
  | .non, v => v = .non
  | .bl b, v => v = .bl b
  | .int i, v => v = .int i
  | .str s, v => v = .str ⟨s.toArray⟩
  | .tup xs, v => ∃ a vs, v = .ref a ∧ FzT K G H a vs ∧ VRs K G H xs vs
  | .lst xs, v => ∃ a vs, v = .ref a ∧ FzL K G H a vs ∧ VRs K G H xs vs
  | .dct ks vs, v => ∃ a ho, v = .ref a ∧ G a = some .frz ∧ H a = some ho ∧ DRx ks (VRs K G H vs) ho
  | .ref n, v => ∃ a, v = .ref a ∧ G a = some (.obj n)
def VRs (K : PySem.W.Frag) (G : Gh) (H : Hp) : List MV → List V → Prop
  | [], vs => vs = []
  | x :: xs, vs => ∃ v r, vs = v :: r ∧ VR K G H x v ∧ VRs K G H xs r
end
def CR (K : PySem.W.Frag) (G : Gh) (H : Hp) : C → Addr → Prop
  | .lst xs, a => ∃ vs, H a = some (.lst vs) ∧ VRs K G H xs vs
  | .dict kvs, a => ∃ ho, H a = some ho ∧ DRx (kvs.map (·.1)) (VRs K G H (kvs.map (·.2))) ho
  | .lock kvs, a => ∃ od ho, H a = some (.frz od ho) ∧ DRx (kvs.map (·.1)) (VRs K G H (kvs.map (·.2))) ho

structure Evo (P : Nat → Prop) (G : Gh) (H : Hp) (G' : Gh) (H' : Hp) : Prop where
  un : ∀ a o, H a = some o → G a = none → H' a = some o ∧ G' a = none
  fz : ∀ a, G a = some .frz → G' a = some .frz ∧ H' a = H a
  ob : ∀ a n, G a = some (.obj n) → G' a = some (.obj n)
  fl : ∀ a n f, P n → G a = some (.fld n f) → G' a = some (.fld n f)
  tk : ∀ a o, H a = some o → ∃ o', H' a = some o' ∧ ∀ x u, o = .frz x u → o' = o
abbrev EvT : Nat → Prop := fun _ => True
theorem Evo.refl {P : Nat → Prop} {G : Gh} {H : Hp} : Evo P G H G H := ⟨fun _ _ h g => ⟨h, g⟩, fun _ g => ⟨g, rfl⟩, fun _ _ g => g, fun _ _ _ _ g => g, fun _ _ h => ⟨_, h, fun _ _ _ => rfl⟩⟩
theorem Evo.trans {P : Nat → Prop} {G G1 G2 : Gh} {H H1 H2 : Hp} (a : Evo P G H G1 H1) (b : Evo P G1 H1 G2 H2) : Evo P G H G2 H2 :=
  ⟨fun c o h g => let ⟨h1, g1⟩ := a.un c o h g; b.un c o h1 g1, fun c g => let ⟨g1, h1⟩ := a.fz c g; let ⟨g2, h2⟩ := b.fz c g1; ⟨g2, h2.trans h1⟩, fun c n g => b.ob c n (a.ob c n g),
   fun c n f p g => b.fl c n f p (a.fl c n f p g), fun c o h => let ⟨o1, h1, k1⟩ := a.tk c o h; let ⟨o2, h2, k2⟩ := b.tk c o1 h1; ⟨o2, h2, fun x u e => (k2 x u ((k1 x u e).trans e)).trans (k1 x u e)⟩⟩
theorem Evo.weak {P P' : Nat → Prop} {G G' : Gh} {H H' : Hp} (a : Evo P G H G' H') (h : ∀ n, P' n → P n) : Evo P' G H G' H' := ⟨a.un, a.fz, a.ob, fun c n f p g => a.fl c n f (h n p) g, a.tk⟩

/-- what values lean on -/
structure Mo (G : Gh) (H : Hp) (G' : Gh) (H' : Hp) : Prop where
  fz : ∀ a, G a = some .frz → G' a = some .frz ∧ H' a = H a
  ob : ∀ a n, G a = some (.obj n) → G' a = some (.obj n)
theorem Evo.mo {P : Nat → Prop} {G G' : Gh} {H H' : Hp} (e : Evo P G H G' H') : Mo G H G' H' := ⟨e.fz, e.ob⟩
theorem FzL.mono {K : PySem.W.Frag} {G G' : Gh} {H H' : Hp} {a : Addr} {xs : List V} (e : Mo G H G' H') (h : FzL K G H a xs) : FzL K G' H' a xs := by
  rcases h with ⟨g, r⟩ | k
  · obtain ⟨g1, h1⟩ := e.fz a g
    refine .inl ⟨g1, ?_⟩
    unfold Rd at *; rw [h1]; exact r
  · exact .inr k
theorem FzT.mono {K : PySem.W.Frag} {G G' : Gh} {H H' : Hp} {a : Addr} {xs : List V} (e : Mo G H G' H') (h : FzT K G H a xs) : FzT K G' H' a xs := by
  rcases h with ⟨g, r⟩ | k
  · obtain ⟨g1, h1⟩ := e.fz a g
    refine .inl ⟨g1, ?_⟩
    unfold Rd at *; rw [h1]; exact r
  · exact .inr k
theorem DRx.mono {ks : List MV} {P P' : List V → Prop} {ho : HO} (h : DRx ks P ho) (m : ∀ l, P l → P' l) : DRx ks P' ho := by
  obtain ⟨dk, e, k, p⟩ := h
  exact ⟨dk, e, k, m _ p⟩
mutual
theorem VR.mono {K : PySem.W.Frag} {G G' : Gh} {H H' : Hp} (e : Mo G H G' H') : ∀ (x : MV) (v : V), VR K G H x v → VR K G' H' x v
  | .non, _, h => by unfold VR at *; exact h
  | .bl _, _, h => by unfold VR at *; exact h
  | .int _, _, h => by unfold VR at *; exact h
  | .str _, _, h => by unfold VR at *; exact h
  | .tup xs, _, h => by
    unfold VR at *
    obtain ⟨a, vs, r, f, q⟩ := h
    exact ⟨a, vs, r, f.mono e, VRs.mono e xs vs q⟩
  | .lst xs, _, h => by
    unfold VR at *
    obtain ⟨a, vs, r, f, q⟩ := h
    exact ⟨a, vs, r, f.mono e, VRs.mono e xs vs q⟩
  | .dct ks vs, _, h => by
    unfold VR at *
    obtain ⟨a, ho, r, g, rd, q⟩ := h
    obtain ⟨g1, h1⟩ := e.fz a g
    exact ⟨a, ho, r, g1, h1.trans rd, q.mono fun l => VRs.mono e vs l⟩
  | .ref n, _, h => by
    unfold VR at *
    obtain ⟨a, r, g⟩ := h
    exact ⟨a, r, e.ob a n g⟩
theorem VRs.mono {K : PySem.W.Frag} {G G' : Gh} {H H' : Hp} (e : Mo G H G' H') : ∀ (xs : List MV) (vs : List V), VRs K G H xs vs → VRs K G' H' xs vs
  | [], _, h => by unfold VRs at *; exact h
  | x :: xs, _, h => by
    unfold VRs at *
    obtain ⟨v, r, q, p, t⟩ := h
    exact ⟨v, r, q, VR.mono e x v p, VRs.mono e xs r t⟩
end
end Mi
set_option Elab.async false
set_option linter.all false
set_option maxRecDepth 100000
set_option maxHeartbeats 4000000
namespace Mi
open PySem PySem.Spec PyProof.Rows L2
/-! rooms in which no repr is under way; a def's promise in such a room -/
structure Room (k : Nat) (A : Around) : Prop where
  old : L2.Room k A
  gd : A.guards = some []
variable {k j : Nat} {A : Around}
theorem Room.hd (r : Room k A) : A.handled = none := r.old.hd
theorem Room.un (r : Room k A) : A.units + 16 * k + 200 < cLine := r.old.un
theorem Room.depth (r : Room k A) : A.depth < recursionLimit := r.old.depth
theorem Room.mono (r : Room j A) (h : k ≤ j) : Room k A := ⟨r.old.mono h, r.gd⟩
theorem Room.deeper (r : Room (k + 1) A) (env : Env) : Room k (A.deeper env) := ⟨r.old.deeper env, r.gd⟩
theorem Room.make (r : Room (k + 1) A) (C : Addr) (us : List Value) (kw : List (Str × Value)) : Room k (A.under (.builtin "type.__call__" ⟨.ref C :: us, kw⟩)) :=
  ⟨r.old.make C us kw, by
    have := r.gd
    first | exact this | (simp [Around.under, Code.guards, Code.isGuard, guardIds, pushGuards, this])⟩
structure FnOk (P : Program) (w : World) (K : PySem.W.Frag) (mg : Str → Option Value) (base : Heap) (CX : CXT) (k : Nat) (f : Addr) (fd : FuncData) (ps : List Str) (sp : Sp) : Prop where
  len : ∀ vs H Q E, sp vs H Q E → vs.length = ps.length
  run : ∀ (A : Around) (outer : List Env) (s : Shared) (H : Hp) (args : Args) (us : List Value) (vs : List V) (Q : VK) (E : XK), Room k A → Env0 P w K mg base A outer s H →
    BindsTo s fd args (ps.zip us) → Vals vs us → sp vs H Q E → codeAny (model P w) A (.call (.ref f) args) (L2.CR CX outer P w H s Q E) s
section
variable {P : Program} {w : World} {K : PySem.W.Frag} {mg : Str → Option Value} {base : Heap} {CX : CXT} {f : Addr} {fd : FuncData} {ps : List Str} {sp : Sp}
theorem FnOk.mono (F : FnOk P w K mg base CX j f fd ps sp) (h : j ≤ k) : FnOk P w K mg base CX k f fd ps sp where
  len := F.len
  run := fun A outer s H args us vs Q E r => F.run A outer s H args us vs Q E (r.mono h)
theorem FnOk.imp {sp' : Sp} (F : FnOk P w K mg base CX k f fd ps sp) (h : ∀ vs H Q E, sp' vs H Q E → sp vs H Q E) : FnOk P w K mg base CX k f fd ps sp' where
  len := fun vs H Q E q => F.len vs H Q E (h vs H Q E q)
  run := fun A outer s H args us vs Q E r e b v q => F.run A outer s H args us vs Q E r e b v (h vs H Q E q)
end
section
variable {X : Cx} {CX : CXT} {f : Addr} {fd : FuncData} {ps : List Str} {sp : Sp} {E : L2.St → XK} {σ : L2.St} {pins : List (Addr × Obj)} {H : Hp} {s : Shared} {Q : VK} {us : List Value} {vs : List V}
/-- a call with arguments that are bound so -/
theorem run_args {args : Args} (F : FnOk X.prog X.w X.K X.mg X.base CX k f fd ps sp) (hr : Room k X.A) (hb : BindsTo s fd args (ps.zip us)) (hx : PassesAt CX X σ (E σ)) (I : Inv X pins σ H s) (r : Vals vs us) (h : sp vs H Q (E σ)) :
    wpAny (model X.prog X.w) X.A (call (.ref f) args.pos args.kw) (EP X pins σ Q) X.xe s :=
  wpAny_call (codeAny_mono (F.run _ _ _ _ args us vs Q (E σ) hr I.env0 hb r h) fun res s' q => by
    match res, q with
    | .error e, q => exact hx pins H s e s' I q
    | .ok (.ret u), q => exact I.after q
    | .ok .next, q => exact q.elim
    | .ok .brk, q => exact q.elim
    | .ok .cont, q => exact q.elim)
theorem run_all (F : FnOk X.prog X.w X.K X.mg X.base CX k f fd ps sp) (hr : Room k X.A) (hb : Binds X.K fd ps []) (hx : PassesAt CX X σ (E σ)) (I : Inv X pins σ H s) (r : Vals vs us) (h : sp vs H Q (E σ)) :
    wpAny (model X.prog X.w) X.A (call (.ref f) us) (EP X pins σ Q) X.xe s := by
  have hl : (us ++ ([] : List Value)).length = ps.length := by rw [List.append_nil, ← r.length]; exact F.len vs H Q (E σ) h
  have b := hb s us I.kIn hl
  rw [List.append_nil] at b
  exact run_args (args := ⟨us, []⟩) F hr b hx I r h
end
section
variable {P : Program} {w : World} {K : PySem.W.Frag} {mg : Str → Option Value} {base : Heap}
/-- a def of the text, from its body -/
theorem fn_body {CX : CXT} {x qual : Str} {st : Stmt} {f : Addr} {fd : FuncData} {N ps : List Str} {sp : Sp} (Fu : Fun K x qual st f fd) (S : FnScope N ps (defScope st)) (len : ∀ vs H Q E, sp vs H Q E → vs.length = ps.length)
    (hb : ∀ (cdv : Value) (A : Around) (outer : List Env) (s : Shared) (H : Hp) (vs : List V) (Q : VK) (E : XK), Room k (A.deeper (envOfC qual (defScope st) s.heap.objs.size f cdv)) → sp vs H Q E →
      ∃ t, PSs (cxOf CX P w K mg base N qual (defScope st) f cdv A outer s H E) (defBody st) t ∧ t { nx := fun _ H' => Q .non H', rt := Q } (L2.start N vs) H) : FnOk P w K mg base CX (k + 1) f fd ps sp where
  len := len
  run := fun A outer s H args us vs Q E room e0 hbind rel hsp => by
    obtain ⟨oc, od, kV, doc, pm, an, cdv, ct, osl, rfl, lk, hcode⟩ := Fu.ex
    have old : ∀ {a : Addr} {o : Obj}, base.get? a = some o → s.heap.get? a = some o := fun z => (e0.bs _ _ z).1
    have KI : K.In s.heap := e0.mod.kin.keeps fun _ _ z => old z
    have kinds : ∀ y ∈ ps.zip us, (defScope st).names.lookup y.1 = some .local ∨ ((defScope st).names.lookup y.1 = some .cell ∧ ((cellsFrom (s.heap.objs.size + 1) (defScope st).names []).lookup y.1).isSome = true) := by
      rintro ⟨nm, v⟩ hy
      exact (S.par nm (List.of_mem_zip hy).1).imp id fun z => ⟨z, PySem.W.cellsFrom_some _ _ _ (.inl z)⟩
    refine codeAny_call_function room.depth (KI _ _ lk) rfl S.co S.gen rfl (PySem.W.codeRec_of KI hcode) (hbind _ _ _ _ (wpAny_newFunctionEnv_cells S.kind kinds ?_))
    rintro env rfl t x
    refine ⟨(e0.mod.nolimit.keeps fun _ _ z => old z).keeps x.toInCall.keep, codeAny_func ?_⟩
    obtain ⟨tt, run, wish⟩ := hb cdv A outer s H vs Q E (room.deeper _) hsp
    have start := inv_start (CX := CX) (cd := cdv) (E := E) S room.hd e0 (len vs H Q E hsp) rel x
    refine wpAny_mono (run.run [] t _ H _ start wish) (fun fl t' h => ?_) fun _ _ h => h
    have done : ∀ {σ' : L2.St} {H' : Hp} {v : V} {u : Value}, Inv (cxOf CX P w K mg base N qual (defScope st) f cdv A outer s H E) [] σ' H' t' → RelV v u → Q v H' → L2.CE outer P w H s Q u t' := fun J rv q => ⟨_, _, J.os, J.bare, J.base, J.hok, rv, q⟩
    match fl, h with
    | .ret u, ⟨v, σ', H', J, rv, q⟩ => exact done J rv q
    | .next, ⟨σ', H', J, q⟩ => exact done (v := .non) (u := .none) J rfl q
    | .brk, ⟨_, _, _, q⟩ => exact q.elim
    | .cont, ⟨_, _, _, q⟩ => exact q.elim
end
end Mi
set_option Elab.async false
set_option linter.all false
set_option maxRecDepth 100000
set_option maxHeartbeats 4000000
namespace Mi
open PySem PySem.Spec PyProof.Rows L2

/-! facts of VRs -/
section
variable {K : PySem.W.Frag} {G : Gh} {H : Hp}
theorem VRs.length : ∀ {xs : List MV} {vs : List V}, VRs K G H xs vs → xs.length = vs.length
  | [], _, h => by unfold VRs at h; subst h; rfl
  | x :: xs, _, h => by
    unfold VRs at h
    obtain ⟨v, r, rfl, _, t⟩ := h
    simp [VRs.length t]
theorem VRs.nil : VRs K G H [] [] := by unfold VRs; rfl
theorem VRs.cons {x : MV} {v : V} {xs : List MV} {vs : List V} (h : VR K G H x v) (t : VRs K G H xs vs) : VRs K G H (x :: xs) (v :: vs) := by
  unfold VRs; exact ⟨v, vs, rfl, h, t⟩
theorem VRs.inv {x : MV} {xs : List MV} {vs : List V} (h : VRs K G H (x :: xs) vs) : ∃ v r, vs = v :: r ∧ VR K G H x v ∧ VRs K G H xs r := by
  unfold VRs at h; exact h
theorem VRs.append : ∀ {xs ys : List MV} {vs ws : List V}, VRs K G H xs vs → VRs K G H ys ws → VRs K G H (xs ++ ys) (vs ++ ws)
  | [], _, _, _, h, t => by unfold VRs at h; subst h; exact t
  | x :: xs, _, _, _, h, t => by
    obtain ⟨v, r, rfl, p, q⟩ := h.inv
    exact .cons p (VRs.append q t)
theorem VRs.get : ∀ {xs : List MV} {vs : List V} {i : Nat} {x : MV}, VRs K G H xs vs → xs[i]? = some x → ∃ v, vs[i]? = some v ∧ VR K G H x v
  | [], _, _, _, _, e => by simp at e
  | x :: xs, _, 0, _, h, e => by
    obtain ⟨v, r, rfl, p, q⟩ := h.inv
    simp at e; subst e; exact ⟨v, rfl, p⟩
  | x :: xs, _, i + 1, y, h, e => by
    obtain ⟨v, r, rfl, p, q⟩ := h.inv
    obtain ⟨u, a, b⟩ := VRs.get (i := i) (x := y) q (by simpa using e)
    exact ⟨u, by simpa using a, b⟩
theorem VRs.get' : ∀ {xs : List MV} {vs : List V} {i : Nat} {v : V}, VRs K G H xs vs → vs[i]? = some v → ∃ x, xs[i]? = some x ∧ VR K G H x v := by
  intro xs vs i v h e
  have hl := h.length
  have hi : i < vs.length := (List.getElem?_eq_some_iff.mp e).1
  have hx : xs[i]? = some xs[i] := List.getElem?_eq_getElem (by omega)
  obtain ⟨u, a, b⟩ := h.get hx
  rw [e] at a; cases a
  exact ⟨_, hx, b⟩
theorem VRs.take : ∀ {xs : List MV} {vs : List V} (n : Nat), VRs K G H xs vs → VRs K G H (xs.take n) (vs.take n)
  | _, _, 0, _ => by simp [VRs.nil]
  | [], _, _ + 1, h => by unfold VRs at h; subst h; simp [VRs.nil]
  | x :: xs, _, n + 1, h => by
    obtain ⟨v, r, rfl, p, q⟩ := h.inv
    simpa using VRs.cons p (VRs.take n q)
theorem VRs.drop : ∀ {xs : List MV} {vs : List V} (n : Nat), VRs K G H xs vs → VRs K G H (xs.drop n) (vs.drop n)
  | _, _, 0, h => by simpa using h
  | [], _, _ + 1, h => by unfold VRs at h; subst h; simp [VRs.nil]
  | x :: xs, _, n + 1, h => by
    obtain ⟨v, r, rfl, p, q⟩ := h.inv
    simpa using VRs.drop n q
theorem VRs.set {y : MV} {w : V} (hy : VR K G H y w) : ∀ {xs : List MV} {vs : List V} (i : Nat), VRs K G H xs vs → VRs K G H (xs.set i y) (vs.set i w)
  | [], _, _, h => by unfold VRs at h; subst h; simp [VRs.nil]
  | x :: xs, _, 0, h => by
    obtain ⟨v, r, rfl, p, q⟩ := h.inv
    simpa using VRs.cons hy q
  | x :: xs, _, n + 1, h => by
    obtain ⟨v, r, rfl, p, q⟩ := h.inv
    simpa using VRs.cons p (VRs.set hy n q)
theorem VRs.reverse : ∀ {xs : List MV} {vs : List V}, VRs K G H xs vs → VRs K G H xs.reverse vs.reverse
  | [], _, h => by unfold VRs at h; subst h; simp [VRs.nil]
  | x :: xs, _, h => by
    obtain ⟨v, r, rfl, p, q⟩ := h.inv
    simpa using (VRs.reverse q).append (.cons p .nil)
theorem CR.mono {G' : Gh} {H' : Hp} {a : Addr} (e : Mo G H G' H') (h : H' a = H a) : ∀ {c : C}, CR K G H c a → CR K G' H' c a
  | .lst xs, ⟨vs, q, r⟩ => ⟨vs, h.trans q, VRs.mono e _ _ r⟩
  | .dict kvs, ⟨ho, q, r⟩ => ⟨ho, h.trans q, r.mono fun l => VRs.mono e _ l⟩
  | .lock kvs, ⟨od, ho, q, r⟩ => ⟨od, ho, h.trans q, r.mono fun l => VRs.mono e _ l⟩
end

/-! the heap -/
def FSlot (R : RC) (G : Gh) (H : Hp) (n f : Nat) : Option SV → Option V → Prop
  | none, o => o = none
  | some (.v x), o => ∃ v, o = some v ∧ VR R.K G H x v
  | some (.own c), o => ∃ b, o = some (.ref b) ∧ G b = some (.fld n f) ∧ CR R.K G H c b
def InsF (R : RC) (G : Gh) (H : Hp) (n c : Nat) (fs : List (Option SV)) (hfs : List (Str × V)) : Prop :=
  fs.length = (R.flds c).length ∧ (∀ f nm, (R.flds c)[f]? = some nm → FSlot R G H n f (fs[f]?.join) (hfs.lookup nm)) ∧ (∀ nm, nm ∉ R.flds c → hfs.lookup nm = none)
  ∧ hfs.length ≤ (R.flds c).length ∧ (hfs.map (·.1)).Nodup ∧ ∀ k ∈ hfs.map (·.1), k ∈ R.flds c
def ORel (R : RC) (G : Gh) (H : Hp) (a : Addr) (n : Nat) : MO → Prop
  | .inst c fs => ∃ dx hfs, H a = some (.ins (R.cls c) dx hfs) ∧ InsF R G H n c fs hfs
  | .box c => CR R.K G H c a
  | .exc c => H a = some (ExK (.ref (R.exA c)) none a)
structure HRel (R : RC) (G : Gh) (hp : List MO) (H : Hp) : Prop where
  objs : ∀ n o, hp[n]? = some o → ∃ a, G a = some (.obj n) ∧ ORel R G H a n o
  uniq : ∀ a b n, G a = some (.obj n) → G b = some (.obj n) → a = b
  lt : ∀ a n, G a = some (.obj n) → n < hp.length
  fldOk : ∀ b n f, G b = some (.fld n f) → ∃ a c fs dx hfs nm, G a = some (.obj n) ∧ hp[n]? = some (.inst c fs) ∧ H a = some (.ins (R.cls c) dx hfs) ∧ (R.flds c)[f]? = some nm ∧ hfs.lookup nm = some (.ref b) ∧ ∃ C, fs[f]? = some (some (.own C))
  live : ∀ a r, G a = some r → ∃ o, H a = some o

/-- the frame's constants -/
structure FI where
  G0 : Gh
  H0 : Hp
  base : Nat
def LSlot (R : RC) (G : Gh) (H : Hp) (i : Nat) : SV → V → Prop
  | .v x, v => VR R.K G H x v
  | .own c, v => ∃ a, v = .ref a ∧ G a = some (.loc i) ∧ CR R.K G H c a
structure Rel (R : RC) (F : FI) (G : Gh) (s : MS) (σ : L2.St) (H : Hp) : Prop where
  hp : HRel R G s.hp H
  len : s.env.length = σ.length
  env : ∀ i sv, s.env[i]? = some (some sv) → ∃ v, σ[i]? = some (some v) ∧ LSlot R G H i sv v
  since : Evo (· < F.base) F.G0 F.H0 G H
  base : s.base = F.base
  le : F.base ≤ s.hp.length
  ent : ∀ a r, F.G0 a = some r → r = .frz ∨ (∃ n, r = .obj n) ∨ ∃ n f, n < F.base ∧ r = .fld n f
/-- a result's value -/
def RR (R : RC) (σ : L2.St) (Hs : Hp) (G : Gh) (H : Hp) : RV → V → Prop
  | .v x, v => VR R.K G H x v
  | .own c, v => ∃ a, v = .ref a ∧ Hs a = none ∧ G a = none ∧ CR R.K G H c a
  | .loc i, v => σ[i]? = some (some v)
  | .fld n f, v => ∃ b, v = .ref b ∧ G b = some (.fld n f)
/-- an exception's objects -/
def ExR (R : RC) (G : Gh) (H : Hp) (c : Nat) (xs : List MV) (cls : Value) (d : Option Addr) : Prop :=
  cls = .ref (R.exA c) ∧ xs.length = (R.exF c).length ∧ (xs = [] → d = none) ∧ (xs ≠ [] → ∃ dd fs, d = some dd ∧ H dd = some (.xd fs) ∧ G dd = some .frz ∧
    ∀ (i : Nat) nm x, (R.exF c)[i]? = some nm → xs[i]? = some x → ∃ v, fs.lookup nm = some v ∧ VR R.K G H x v)

theorem CR.there {K : PySem.W.Frag} {G : Gh} {H : Hp} {a : Addr} : ∀ {c : C}, CR K G H c a → ∃ o, H a = some o
  | .lst xs, ⟨vs, h1, _⟩ => ⟨_, h1⟩
  | .dict kvs, ⟨vs, h1, _⟩ => ⟨_, h1⟩
  | .lock kvs, ⟨_, _, h1, _⟩ => ⟨_, h1⟩
/-- what is not locked is not frozen in the model's heap -/
theorem CR.nf {K : PySem.W.Frag} {G : Gh} {H : Hp} {a : Addr} : ∀ {c : C}, isLk c = false → CR K G H c a → ∀ x u, H a ≠ some (.frz x u)
  | .lst xs, _, ⟨vs, h1, _⟩ => fun x u z => by rw [h1] at z; cases z
  | .dict kvs, _, ⟨ho, h1, dk, e, _⟩ => fun x u z => by rw [h1, e] at z; cases z
  | .lock kvs, h, _ => by cases h
theorem RR.mono {R : RC} {σ : L2.St} {Hs : Hp} {G G' : Gh} {H H' : Hp} {v : V} (e : Evo EvT G H G' H') : ∀ {r : RV}, RR R σ Hs G H r v → RR R σ Hs G' H' r v
  | .v x, h => VR.mono e.mo x v h
  | .own c, ⟨a, q, n, g, h⟩ => by
    obtain ⟨o, ho⟩ := h.there
    obtain ⟨h1, g1⟩ := e.un a o ho g
    exact ⟨a, q, n, g1, h.mono e.mo (h1.trans ho.symm)⟩
  | .loc i, h => h
  | .fld n f, ⟨b, q, g⟩ => ⟨b, q, e.fl b n f trivial g⟩
/-- fresh of the later, fresh of the earlier -/
theorem fresh_back {P : Nat → Prop} {G G' : Gh} {H H' : Hp} {a : Addr} (e : Evo P G H G' H') (h : H' a = none) : H a = none := by
  cases q : H a with
  | none => rfl
  | some o => obtain ⟨o', h', _⟩ := e.tk a o q; rw [h] at h'; cases h'
theorem RR.back {R : RC} {σ : L2.St} {H H1 : Hp} {G G1 : Gh} {G' : Gh} {H' : Hp} {v : V} {P : Nat → Prop} (e : Evo P G H G1 H1) : ∀ {r : RV}, RR R σ H1 G' H' r v → RR R σ H G' H' r v
  | .v x, h => h
  | .own c, ⟨a, q, n, g, h⟩ => ⟨a, q, fresh_back e n, g, h⟩
  | .loc i, h => h
  | .fld n f, h => h
/-! steps of the heap -/
theorem Evo.setr {P : Nat → Prop} {G G1 : Gh} {H H1 : Hp} {a : Addr} {r : Option Role} (e : Evo P G H G1 H1) (h : H a = none) (g : G1 a = none) : Evo P G H (setG G1 a r) H1 := by
  have ne : ∀ b, G1 b ≠ none → b ≠ a := fun b hb z => hb (z ▸ g)
  refine ⟨fun b o hb gb => ?_, fun b gb => ?_, fun b n gb => ?_, fun b n f p gb => ?_, e.tk⟩
  · obtain ⟨h1, g1⟩ := e.un b o hb gb
    have : b ≠ a := fun z => by rw [z, h] at hb; cases hb
    exact ⟨h1, by rw [setG_ne this]; exact g1⟩
  · obtain ⟨g1, h1⟩ := e.fz b gb
    exact ⟨by rw [setG_ne (ne b (by rw [g1]; simp))]; exact g1, h1⟩
  · have g1 := e.ob b n gb
    rw [setG_ne (ne b (by rw [g1]; simp))]; exact g1
  · have g1 := e.fl b n f p gb
    rw [setG_ne (ne b (by rw [g1]; simp))]; exact g1
theorem Mo.setr {G : Gh} {H : Hp} {a : Addr} {r : Option Role} (g : G a = none) : Mo G H (setG G a r) H := by
  have ne : ∀ b, G b ≠ none → b ≠ a := fun b hb z => hb (z ▸ g)
  exact ⟨fun b gb => ⟨by rw [setG_ne (ne b (by rw [gb]; simp))]; exact gb, rfl⟩, fun b n gb => by rw [setG_ne (ne b (by rw [gb]; simp))]; exact gb⟩
/-- a write of the heap's map at a place that is not frozen -/
theorem Mo.upd {G : Gh} {H : Hp} {a : Addr} {o : HO} (g : G a ≠ some .frz) : Mo G H G (upd H a o) :=
  ⟨fun b gb => ⟨gb, upd_ne fun z => g (by rw [← z]; exact gb)⟩, fun _ _ gb => gb⟩
theorem Evo.updRole {P : Nat → Prop} {G : Gh} {H : Hp} {a : Addr} {o : HO} (g : G a ≠ some .frz) (g0 : G a ≠ none) (nf : ∀ x u, H a ≠ some (.frz x u)) : Evo P G H G (upd H a o) :=
  ⟨fun b u hb gb => ⟨by
    have nb : b ≠ a := fun z => g0 (by rw [← z]; exact gb)
    rw [upd_ne nb]; exact hb, gb⟩, (Mo.upd g).fz, fun _ _ q => q, fun _ _ _ _ q => q, fun b u hb => by
    by_cases z : b = a
    · subst z; exact ⟨_, upd_same, fun x w e => absurd (e ▸ hb) (nf x w)⟩
    · exact ⟨u, by rw [upd_ne z]; exact hb, fun _ _ _ => rfl⟩⟩
theorem Evo.updNew {P : Nat → Prop} {G G1 : Gh} {H H1 : Hp} {a : Addr} {o : HO} (e : Evo P G H G1 H1) (h : H a = none) (g : G1 a = none) : Evo P G H G1 (L2.upd H1 a o) := by
  refine ⟨fun b u hb gb => ?_, fun b gb => ?_, e.ob, e.fl, fun b u hb => ?_⟩
  · obtain ⟨h1, g1⟩ := e.un b u hb gb
    have : b ≠ a := fun z => by rw [z, h] at hb; cases hb
    exact ⟨by rw [upd_ne this]; exact h1, g1⟩
  · obtain ⟨g1, h1⟩ := e.fz b gb
    have : b ≠ a := fun z => by rw [z, g] at g1; cases g1
    exact ⟨g1, by rw [upd_ne this]; exact h1⟩
  · by_cases z : b = a
    · subst z; rw [h] at hb; cases hb
    · obtain ⟨u', h1, k1⟩ := e.tk b u hb
      exact ⟨u', by rw [upd_ne z]; exact h1, k1⟩
theorem Evo.rerole {P : Nat → Prop} {G G1 : Gh} {H H1 : Hp} {a : Addr} {r : Option Role} {i : Nat} (e : Evo P G H G1 H1) (g : G1 a = some (.loc i)) : Evo P G H (setG G1 a r) H1 := by
  have ne : ∀ b x, G1 b = x → x ≠ some (.loc i) → b ≠ a := fun b x hb k z => k (by rw [← hb, z]; exact g)
  refine ⟨fun b o hb gb => ?_, fun b gb => ?_, fun b n gb => ?_, fun b n f p gb => ?_, e.tk⟩
  · obtain ⟨h1, g1⟩ := e.un b o hb gb
    exact ⟨h1, by rw [setG_ne (ne b _ g1 (by simp))]; exact g1⟩
  · obtain ⟨g1, h1⟩ := e.fz b gb
    exact ⟨by rw [setG_ne (ne b _ g1 (by simp))]; exact g1, h1⟩
  · have g1 := e.ob b n gb
    rw [setG_ne (ne b _ g1 (by simp))]; exact g1
  · have g1 := e.fl b n f p gb
    rw [setG_ne (ne b _ g1 (by simp))]; exact g1
theorem Mo.rerole {G : Gh} {H : Hp} {a : Addr} {r : Option Role} {i : Nat} (g : G a = some (.loc i)) : Mo G H (setG G a r) H := by
  have ne : ∀ b x, G b = x → x ≠ some (.loc i) → b ≠ a := fun b x hb k z => k (by rw [← hb, z]; exact g)
  exact ⟨fun b gb => ⟨by rw [setG_ne (ne b _ gb (by simp))]; exact gb, rfl⟩, fun b n gb => by rw [setG_ne (ne b _ gb (by simp))]; exact gb⟩
section
variable {R : RC} {F : FI} {G : Gh} {H : Hp} {hp : List MO} {s : MS} {σ : L2.St}
theorem FSlot.mono {G' : Gh} {H' : Hp} {n f : Nat} (m : Mo G H G' H') (hb : ∀ b, G b = some (.fld n f) → G' b = some (.fld n f) ∧ H' b = H b) : ∀ {sv : Option SV} {o : Option V}, FSlot R G H n f sv o → FSlot R G' H' n f sv o
  | none, _, h => h
  | some (.v x), _, ⟨v, e, h⟩ => ⟨v, e, VR.mono m x v h⟩
  | some (.own c), _, ⟨b, e, g, h⟩ => ⟨b, e, (hb b g).1, h.mono m (hb b g).2⟩
theorem InsF.mono {G' : Gh} {H' : Hp} {n c : Nat} {fs : List (Option SV)} {hfs : List (Str × V)} (m : Mo G H G' H') (hb : ∀ b f, G b = some (.fld n f) → G' b = some (.fld n f) ∧ H' b = H b) (h : InsF R G H n c fs hfs) : InsF R G' H' n c fs hfs :=
  ⟨h.1, fun f nm e => (h.2.1 f nm e).mono m (hb · f), h.2.2⟩
theorem ORel.mono {G' : Gh} {H' : Hp} {a : Addr} {n : Nat} (m : Mo G H G' H') (ha : H' a = H a) (hb : ∀ b f, G b = some (.fld n f) → G' b = some (.fld n f) ∧ H' b = H b) : ∀ {o : MO}, ORel R G H a n o → ORel R G' H' a n o
  | .inst c fs, ⟨dx, hfs, e, h⟩ => ⟨dx, hfs, ha.trans e, h.mono m hb⟩
  | .box c, h => CR.mono m ha h
  | .exc c, h => ha.trans h
/-- the mini heap stays, the roles obj and fld and what stands there stay -/
theorem HRel.keep {G' : Gh} {H' : Hp} (h : HRel R G hp H) (m : Mo G H G' H') (ho : ∀ b n, G b = some (.obj n) → H' b = H b) (hf : ∀ b n f, G b = some (.fld n f) → G' b = some (.fld n f) ∧ H' b = H b)
    (ob : ∀ b n, G' b = some (.obj n) → G b = some (.obj n)) (of : ∀ b n f, G' b = some (.fld n f) → G b = some (.fld n f)) (lv : ∀ b r, G' b = some r → ∃ o, H' b = some o) : HRel R G' hp H' := by
  refine ⟨fun n o e => ?_, fun a b n ha hb => h.uniq a b n (ob a n ha) (ob b n hb), fun a n e => h.lt a n (ob a n e), fun b n f e => ?_, lv⟩
  · obtain ⟨a, ga, r⟩ := h.objs n o e
    exact ⟨a, m.ob a n ga, r.mono m (ho a n ga) fun b f g => hf b n f g⟩
  · obtain ⟨a, c, fs, dx, hfs, nm, ga, hn, ha, q⟩ := h.fldOk b n f (of b n f e)
    exact ⟨a, c, fs, dx, hfs, nm, m.ob a n ga, hn, (ho a n ga).trans ha, q⟩
theorem HRel.setr {a : Addr} {r : Option Role} (h : HRel R G hp H) (g : G a = none) (ha : ∃ o, H a = some o) (hr : r = some .frz ∨ ∃ i, r = some (.loc i)) : HRel R (setG G a r) hp H := by
  have ne : ∀ b, G b ≠ none → b ≠ a := fun b hb z => hb (z ▸ g)
  refine h.keep (Mo.setr g) (fun _ _ _ => rfl) (fun b n f e => ⟨by rw [setG_ne (ne b (by rw [e]; simp))]; exact e, rfl⟩) (fun b n e => ?_) (fun b n f e => ?_) fun b q e => ?_
  all_goals by_cases z : b = a
  · subst z; rw [setG_same] at e; rcases hr with hr | ⟨i, hr⟩ <;> (rw [hr] at e; cases e)
  · rw [setG_ne z] at e; exact e
  · subst z; rw [setG_same] at e; rcases hr with hr | ⟨i, hr⟩ <;> (rw [hr] at e; cases e)
  · rw [setG_ne z] at e; exact e
  · subst z; exact ha
  · rw [setG_ne z] at e; exact h.live b q e
/-- what is new, or a local's: written -/
theorem HRel.upd {a : Addr} {o : HO} (h : HRel R G hp H) (g : G a = none ∨ ∃ i, G a = some (.loc i)) : HRel R G hp (L2.upd H a o) := by
  have ne : ∀ b r, G b = some r → (∀ i, r ≠ .loc i) → b ≠ a := fun b r e k z => by
    subst z
    rcases g with g | ⟨i, g⟩
    · rw [g] at e; cases e
    · rw [g] at e; cases e; exact k i rfl
  refine h.keep (Mo.upd fun e => ?_) (fun b n e => upd_ne (ne b _ e (by intro i z; cases z))) (fun b n f e => ⟨e, upd_ne (ne b _ e (by intro i z; cases z))⟩) (fun _ _ e => e) (fun _ _ _ e => e) fun b r e => ?_
  · rcases g with g | ⟨i, g⟩ <;> (rw [g] at e; cases e)
  · by_cases z : b = a
    · subst z; exact ⟨_, upd_same⟩
    · rw [upd_ne z]; exact h.live b r e
theorem Rel.noRole {a : Addr} (h : Rel R F G s σ H) (e : H a = none) : G a = none := by
  cases q : G a with
  | none => rfl
  | some r => obtain ⟨o, z⟩ := h.hp.live a r q; rw [e] at z; cases z
/-- a new tracked object -/
theorem Rel.alloc {a : Addr} {o : HO} (h : Rel R F G s σ H) (e : H a = none) : Rel R F G s σ (L2.upd H a o) := by
  have g := h.noRole e
  refine ⟨h.hp.upd (.inl g), h.len, fun i sv q => ?_, ?_, h.base, h.le, h.ent⟩
  · obtain ⟨v, q1, r⟩ := h.env i sv q
    refine ⟨v, q1, ?_⟩
    have m : Mo G H G (L2.upd H a o) := Mo.upd (by rw [g]; simp)
    cases sv with
    | v x => exact VR.mono m x v r
    | own c =>
      obtain ⟨b, q2, gb, r⟩ := r
      exact ⟨b, q2, gb, r.mono m (upd_ne fun z => by rw [z, g] at gb; cases gb)⟩
  · exact h.since.trans (Evo.refl.updNew e g)
/-- a role given to what has none -/
theorem Rel.setr {a : Addr} {r : Option Role} (h : Rel R F G s σ H) (g : G a = none) (ha : ∃ o, H a = some o) (h0 : F.H0 a = none) (hr : r = some .frz ∨ ∃ i, r = some (.loc i)) : Rel R F (setG G a r) s σ H := by
  refine ⟨h.hp.setr g ha hr, h.len, fun i sv q => ?_, h.since.setr h0 g, h.base, h.le, h.ent⟩
  obtain ⟨v, q1, k⟩ := h.env i sv q
  refine ⟨v, q1, ?_⟩
  cases sv with
  | v x => exact VR.mono (Mo.setr g) x v k
  | own c =>
    obtain ⟨b, q2, gb, k⟩ := k
    exact ⟨b, q2, by rw [setG_ne fun z => by rw [z, g] at gb; cases gb]; exact gb, k.mono (Mo.setr g) rfl⟩
end
/-- a local's container is frozen, or let go: slot i's -/
theorem HRel.rerole {R : RC} {G : Gh} {H : Hp} {hp : List MO} {a : Addr} {i : Nat} {r : Option Role} (h : HRel R G hp H) (g : G a = some (.loc i)) (hr : r = some .frz ∨ r = none) : HRel R (setG G a r) hp H := by
  have ne : ∀ b x, G b = x → x ≠ some (.loc i) → b ≠ a := fun b x hb k z => k (by rw [← hb, z]; exact g)
  refine h.keep (Mo.rerole g) (fun _ _ _ => rfl) (fun b n f e => ⟨by rw [setG_ne (ne b _ e (by simp))]; exact e, rfl⟩) (fun b n e => ?_) (fun b n f e => ?_) fun b q e => ?_
  all_goals by_cases z : b = a
  · subst z; rw [setG_same] at e; rcases hr with hr | hr <;> (rw [hr] at e; cases e)
  · rw [setG_ne z] at e; exact e
  · subst z; rw [setG_same] at e; rcases hr with hr | hr <;> (rw [hr] at e; cases e)
  · rw [setG_ne z] at e; exact e
  · subst z; exact h.live _ _ g
  · rw [setG_ne z] at e; exact h.live b q e
/-- .. the slots: slot i becomes sv -/
theorem Rel.rerole {R : RC} {F : FI} {G : Gh} {H : Hp} {s : MS} {σ : L2.St} {a : Addr} {i : Nat} {r : Option Role} {sv : Option SV} {v : V} (h : Rel R F G s σ H) (g : G a = some (.loc i)) (hr : r = some .frz ∨ r = none) (hi : σ[i]? = some (some v))
    (new : ∀ x, sv = some x → LSlot R (setG G a r) H i x v) : Rel R F (setG G a r) { s with env := s.env.set i sv } σ H := by
  have m : Mo G H (setG G a r) H := Mo.rerole g
  refine ⟨h.hp.rerole g hr, by simpa using h.len, fun j x e => ?_, h.since.rerole g, h.base, h.le, h.ent⟩
  by_cases z : j = i
  · subst z
    have hl : j < s.env.length := by
      rw [h.len]; exact (List.getElem?_eq_some_iff.mp hi).1
    simp only [List.getElem?_set_self hl] at e
    exact ⟨v, hi, new x (Option.some.inj e)⟩
  · simp only [List.getElem?_set_ne (Ne.symm z)] at e
    obtain ⟨w, q, k⟩ := h.env j x e
    refine ⟨w, q, ?_⟩
    cases x with
    | v y => exact VR.mono m y w k
    | own c =>
      obtain ⟨b, e2, gb, k⟩ := k
      have nb : b ≠ a := fun q => z (by rw [q, g] at gb; cases gb; rfl)
      exact ⟨b, e2, by rw [setG_ne nb]; exact gb, k.mono m rfl⟩
/-- how results lie to values -/
structure RL (α β : Type) where
  rel : RC → L2.St → Hp → Gh → Hp → α → β → Prop
  mono : ∀ {R σ Hs G H G' H' r v}, Evo EvT G H G' H' → rel R σ Hs G H r v → rel R σ Hs G' H' r v
  back : ∀ {R σ H H1 G G1 G' H' r v}, Evo EvT G H G1 H1 → rel R σ H1 G' H' r v → rel R σ H G' H' r v
def rlE : RL RV V := ⟨fun R σ Hs G H r v => RR R σ Hs G H r v, fun e h => h.mono e, fun e h => h.back e⟩
def rlV : RL MV V := ⟨fun R _ _ G H r v => VR R.K G H r v, fun e h => VR.mono e.mo _ _ h, fun _ h => h⟩
def rlS : RL (List MV) (List V) := ⟨fun R _ _ G H r v => VRs R.K G H r v, fun e h => VRs.mono e.mo _ _ h, fun _ h => h⟩
def rlB : RL Bool Bool := ⟨fun _ _ _ _ _ r v => v = r, fun _ h => h, fun _ h => h⟩
section
variable {α β : Type} (L : RL α β) (R : RC) (F : FI) (W : WX)
def OutX (σ : L2.St) (G : Gh) (H : Hp) (o : Out α) (Q : β → Hp → Prop) : Prop := match o with
  | .ok r s' => ∀ G' H' v, Rel R F G' s' σ H' → Evo EvT G H G' H' → L.rel R σ H G' H' r v → Q v H'
  | .exc c xs s' => ∀ G' H' cls d, Rel R F G' s' σ H' → Evo EvT G H G' H' → ExR R G' H' c xs cls d → W cls d σ H'
  | .bad => False
def tX (f : MS → Out α) : L2.St → Hp → (β → Hp → Prop) → Prop := fun σ H Q => ∃ G s, Rel R F G s σ H ∧ OutX L R F W σ G H (f s) Q
end
abbrev tE (R : RC) (F : FI) (W : WX) (f : ME) : TE := tX rlE R F W f
abbrev tV (R : RC) (F : FI) (W : WX) (f : MS → Out MV) : TE := tX rlV R F W f
abbrev tVs (R : RC) (F : FI) (W : WX) (f : MS → Out (List MV)) : TA := tX rlS R F W f
abbrev tT (R : RC) (F : FI) (W : WX) (f : MS → Out Bool) : TT := tX rlB R F W f
section
variable {α β γ δ : Type} {L : RL α β} {M : RL γ δ} {R : RC} {F : FI} {W : WX} {σ : L2.St} {G G1 : Gh} {H H1 : Hp}
theorem OutX.rebase {o : Out α} {Q : β → Hp → Prop} (h : OutX L R F W σ G H o Q) (e : Evo EvT G H G1 H1) : OutX L R F W σ G1 H1 o Q := by
  cases o with
  | ok r s' => exact fun G' H' v rel ev rr => h G' H' v rel (e.trans ev) (L.back e rr)
  | exc c xs s' => exact fun G' H' cls d rel ev x => h G' H' cls d rel (e.trans ev) x
  | bad => exact h
theorem tX.mono {f : MS → Out α} {Q Q' : β → Hp → Prop} (h : tX L R F W f σ H Q) (k : ∀ y H', Q y H' → Q' y H') : tX L R F W f σ H Q' := by
  obtain ⟨G, s, rel, h⟩ := h
  refine ⟨G, s, rel, ?_⟩
  cases q : f s with
  | ok r s2 => rw [q] at h; exact fun G' H' v a b c => k _ _ (h G' H' v a b c)
  | exc c xs s2 => rw [q] at h; exact h
  | bad => rw [q] at h; exact h
/-- a state on the way from (G, H) -/
structure Way (R : RC) (F : FI) (σ : L2.St) (G : Gh) (H : Hp) (G1 : Gh) (H1 : Hp) (s1 : MS) : Prop where
  rel : Rel R F G1 s1 σ H1
  evo : Evo EvT G H G1 H1
  st : Evo (· < F.base) F.G0 F.H0 G H
/-- run on from a state -/
theorem next {fb : MS → Out γ} {k : γ → MS → Out α} {Q : β → Hp → Prop} {s1 : MS} (w : Way R F σ G H G1 H1 s1) (h : OutX L R F W σ G H ((fb s1).bind k) Q) :
    tX M R F W fb σ H1 (fun y H2 => ∃ r s2 G2, Way R F σ G H G2 H2 s2 ∧ Evo EvT G1 H1 G2 H2 ∧ M.rel R σ H G2 H2 r y ∧ OutX L R F W σ G H (k r s2) Q) := by
  refine ⟨G1, s1, w.rel, ?_⟩
  cases q : fb s1 with
  | ok r s2 =>
    rw [q] at h
    intro G' H' v rel' ev rr
    exact ⟨r, s2, G', ⟨rel', w.evo.trans ev, w.st⟩, ev, M.back w.evo rr, h⟩
  | exc c xs s2 => rw [q] at h; exact fun G' H' cls d rel ev x => h G' H' cls d rel (w.evo.trans ev) x
  | bad => rw [q] at h; exact h
/-- the first step -/
theorem first {fb : MS → Out γ} {k : γ → MS → Out α} {Q : β → Hp → Prop} (h : tX L R F W (fun s => (fb s).bind k) σ H Q) :
    tX M R F W fb σ H (fun y H1 => ∃ G r s1 G1, Way R F σ G H G1 H1 s1 ∧ M.rel R σ H G1 H1 r y ∧ OutX L R F W σ G H (k r s1) Q) := by
  obtain ⟨G, s, rel, h⟩ := h
  obtain ⟨G', s', rel', h'⟩ := next (M := M) (L := L) ⟨rel, .refl, rel.since⟩ h
  refine ⟨G', s', rel', ?_⟩
  cases q : fb s' with
  | ok r s2 =>
    rw [q] at h'
    intro G2 H2 v r2 ev rr
    obtain ⟨r, s3, G3, w, _, rr, o⟩ := h' G2 H2 v r2 ev rr
    exact ⟨G, r, s3, G3, w, rr, o⟩
  | exc c xs s2 => rw [q] at h'; exact h'
  | bad => rw [q] at h'; exact h'
end
end Mi
set_option Elab.async false
set_option linter.all false
set_option maxRecDepth 100000
set_option maxHeartbeats 4000000
namespace Mi
open PySem PySem.Spec PyProof.Rows L2

/-! contents -/
def frzC : C → MV
  | .lst xs => .lst xs
  | .dict kvs => .dct (kvs.map (·.1)) (kvs.map (·.2))
  | .lock kvs => .dct (kvs.map (·.1)) (kvs.map (·.2))
def cont (s : MS) : RV → Option C
  | .own c => some c
  | .loc i => match s.env[i]? with | some (some (.own c)) => some c | _ => none
  | .fld n f => match s.hp[n]? with
    | some (.inst _ fs) => match fs[f]? with | some (some (.own c)) => some c | _ => none
    | _ => none
  | .v (.lst xs) => some (.lst xs)
  | .v (.dct ks vs) => if ks.length = vs.length then some (.dict (ks.zip vs)) else none
  | .v (.ref n) => match s.hp[n]? with | some (.box c) => some c | _ => none
  | _ => none
section
variable {R : RC} {F : FI} {G : Gh} {H Hs : Hp} {s : MS} {σ : L2.St} {v : V} {r : RV}
theorem FzT.sq {K : PySem.W.Frag} {a : Addr} {vs : List V} (h : FzT K G H a vs) : SqT K H a vs := by
  rcases h with ⟨_, r⟩ | k
  · exact .inl r
  · exact .inr k
theorem FzL.sq {K : PySem.W.Frag} {a : Addr} {vs : List V} (h : FzL K G H a vs) : SqL K H a vs := by
  rcases h with ⟨_, r⟩ | k
  · exact .inl r
  · exact .inr k
def CRd (K : PySem.W.Frag) (G : Gh) (H : Hp) : C → Addr → Prop
  | .lst xs, a => ∃ vs, SqL K H a vs ∧ VRs K G H xs vs
  | .dict kvs, a => ∃ ho, H a = some ho ∧ DRx (kvs.map (·.1)) (VRs K G H (kvs.map (·.2))) ho
  | .lock kvs, a => ∃ od ho, H a = some (.frz od ho) ∧ DRx (kvs.map (·.1)) (VRs K G H (kvs.map (·.2))) ho
theorem CR.rd {K : PySem.W.Frag} {a : Addr} : ∀ {c : C}, CR K G H c a → CRd K G H c a
  | .lst xs, ⟨vs, e, h⟩ => ⟨vs, .inl (.inl e), h⟩
  | .dict kvs, ⟨ho, e, h⟩ => ⟨ho, e, h⟩
  | .lock kvs, ⟨od, ho, e, h⟩ => ⟨od, ho, e, h⟩
theorem zip_fst {α β : Type} : ∀ {a : List α} {b : List β}, a.length = b.length → (a.zip b).map (·.1) = a
  | [], [], _ => rfl
  | x :: a, y :: b, h => by simp [zip_fst (a := a) (b := b) (by simpa using h)]
  | [], _ :: _, h => by simp at h
  | _ :: _, [], h => by simp at h
theorem zip_snd {α β : Type} : ∀ {a : List α} {b : List β}, a.length = b.length → (a.zip b).map (·.2) = b
  | [], [], _ => rfl
  | x :: a, y :: b, h => by simp [zip_snd (a := a) (b := b) (by simpa using h)]
  | [], _ :: _, h => by simp at h
  | _ :: _, [], h => by simp at h
/-- the content that a result has stands at its address -/
theorem cont_ok {c : C} (rel : Rel R F G s σ H) (rr : RR R σ Hs G H r v) (e : cont s r = some c) : ∃ a, v = .ref a ∧ CRd R.K G H c a := by
  cases r with
  | own c' =>
    obtain ⟨a, q, _, _, h⟩ := rr
    cases (show some c' = some c from e)
    exact ⟨a, q, h.rd⟩
  | loc i =>
    simp only [cont] at e
    split at e
    · rename_i c' hc
      cases e
      obtain ⟨w, q, a, ev, g, h⟩ := rel.env i _ hc
      have rr' : σ[i]? = some (some v) := rr
      rw [rr'] at q; cases q
      exact ⟨a, ev, h.rd⟩
    · cases e
  | fld n f =>
    simp only [cont] at e
    split at e
    · rename_i cl fs hn
      split at e
      · rename_i c' hc
        cases e
        obtain ⟨b, ev, gb⟩ := rr
        obtain ⟨a, ga, dx, hfs, ha, hlen, hf, _⟩ := rel.hp.objs n _ hn
        obtain ⟨a', c2, fs2, dx', hfs', nm, ga', hn2, ha', hnm, hl, _⟩ := rel.hp.fldOk b n f gb
        have ea := rel.hp.uniq _ _ _ ga ga'
        subst ea
        rw [hn] at hn2
        cases hn2
        rw [ha] at ha'
        cases ha'
        have fs1 := hf f _ hnm
        rw [hc, hl] at fs1
        obtain ⟨b', hb', gb', cr⟩ := fs1
        cases hb'
        exact ⟨b, ev, cr.rd⟩
      · cases e
    · cases e
  | v x =>
    cases x with
    | lst xs =>
      cases (show some (C.lst xs) = some c from e)
      have rr' : VR R.K G H (.lst xs) v := rr
      unfold VR at rr'
      obtain ⟨a, vs, q, f, h⟩ := rr'
      exact ⟨a, q, vs, f.sq, h⟩
    | dct ks vs =>
      simp only [cont] at e
      split at e
      · rename_i hl
        cases e
        have rr' : VR R.K G H (.dct ks vs) v := rr
        unfold VR at rr'
        obtain ⟨a, ho, q, g, rd, h⟩ := rr'
        exact ⟨a, q, ho, rd, by rw [zip_fst hl, zip_snd hl]; exact h⟩
      · cases e
    | ref n =>
      simp only [cont] at e
      split at e
      · rename_i c' hc
        cases e
        have rr' : VR R.K G H (.ref n) v := rr
        unfold VR at rr'
        obtain ⟨a, q, g⟩ := rr'
        obtain ⟨a', ga', h⟩ := rel.hp.objs n _ hc
        have ea := rel.hp.uniq _ _ _ g ga'
        subst ea
        exact ⟨a, q, CR.rd h⟩
      · cases e
    | non => cases e
    | bl b => cases e
    | int i => cases e
    | str s => cases e
    | tup xs => cases e
/-- the content of a thing that is not frozen -/
def contW (s : MS) : RV → Option C
  | .v (.lst _) => none
  | .v (.dct _ _) => none
  | r => cont s r
/-- the content that a result has stands at its address -/
theorem contW_ok {c : C} (rel : Rel R F G s σ H) (rr : RR R σ Hs G H r v) (e : contW s r = some c) : ∃ a, v = .ref a ∧ CR R.K G H c a := by
  cases r with
  | own c' =>
    obtain ⟨a, q, _, _, h⟩ := rr
    cases (show some c' = some c from e)
    exact ⟨a, q, h⟩
  | loc i =>
    simp only [contW, cont] at e
    split at e
    · rename_i c' hc
      cases e
      obtain ⟨w, q, a, ev, g, h⟩ := rel.env i _ hc
      have rr' : σ[i]? = some (some v) := rr
      rw [rr'] at q; cases q
      exact ⟨a, ev, h⟩
    · cases e
  | fld n f =>
    simp only [contW, cont] at e
    split at e
    · rename_i cl fs hn
      split at e
      · rename_i c' hc
        cases e
        obtain ⟨b, ev, gb⟩ := rr
        obtain ⟨a, ga, dx, hfs, ha, hlen, hf, _⟩ := rel.hp.objs n _ hn
        obtain ⟨a', c2, fs2, dx', hfs', nm, ga', hn2, ha', hnm, hl, _⟩ := rel.hp.fldOk b n f gb
        have ea := rel.hp.uniq _ _ _ ga ga'
        subst ea
        rw [hn] at hn2
        cases hn2
        rw [ha] at ha'
        cases ha'
        have fs1 := hf f _ hnm
        rw [hc, hl] at fs1
        obtain ⟨b', hb', gb', cr⟩ := fs1
        cases hb'
        exact ⟨b, ev, cr⟩
      · cases e
    · cases e
  | v x =>
    cases x with
    | lst xs => cases e
    | dct ks vs => cases e
    | ref n =>
      simp only [contW, cont] at e
      split at e
      · rename_i c' hc
        cases e
        have rr' : VR R.K G H (.ref n) v := rr
        unfold VR at rr'
        obtain ⟨a, q, g⟩ := rr'
        obtain ⟨a', ga', h⟩ := rel.hp.objs n _ hc
        have ea := rel.hp.uniq _ _ _ g ga'
        subst ea
        exact ⟨a, q, h⟩
      · cases e
    | non => cases e
    | bl b => cases e
    | int i => cases e
    | str s => cases e
    | tup xs => cases e
end
end Mi
set_option Elab.async false
set_option linter.all false
set_option maxRecDepth 100000
set_option maxHeartbeats 4000000
namespace Mi
open PySem PySem.Spec PyProof.Rows L2

theorem PE.imp {X : Cx} {e : Expr} {t t' : TE} (h : PE X e t) (k : ∀ σ H Q, t' σ H Q → t σ H Q) : PE X e t' := ⟨fun pins s σ H Q I q => h.run pins s σ H Q I (k σ H Q q)⟩
theorem PA.imp {X : Cx} {e : List Expr} {t t' : TA} (h : PA X e t) (k : ∀ σ H Q, t' σ H Q → t σ H Q) : PA X e t' := ⟨fun pos pins s σ H Q I q => h.run pos pins s σ H Q I (k σ H Q q)⟩
theorem PT.imp {X : Cx} {e : Expr} {t t' : TT} (h : PT X e t) (k : ∀ σ H Q, t' σ H Q → t σ H Q) : PT X e t' := ⟨fun pins s σ H Q I q => h.run pins s σ H Q I (k σ H Q q)⟩
theorem PW.imp {X : Cx} {e : Expr} {t t' : TT} (h : PW X e t) (k : ∀ σ H Q, t' σ H Q → t σ H Q) : PW X e t' := ⟨fun w pins s σ H Q I q => h.run w pins s σ H Q I (k σ H Q q)⟩
theorem PS.imp {X : Cx} {e : Stmt} {t t' : TS} (h : PS X e t) (k : ∀ D σ H, t' D σ H → t D σ H) : PS X e t' := ⟨fun pins s σ H D I q => h.run pins s σ H D I (k D σ H q)⟩
theorem PSs.imp {X : Cx} {e : List Stmt} {t t' : TS} (h : PSs X e t) (k : ∀ D σ H, t' D σ H → t D σ H) : PSs X e t' := ⟨fun pins s σ H D I q => h.run pins s σ H D I (k D σ H q)⟩

/-! the judgements -/
def JE (X : Cx) (R : RC) (W : WX) (e : Expr) (f : ME) : Prop := R.K = X.K → ∀ F, PE X e (tE R F W f)
def JV (X : Cx) (R : RC) (W : WX) (e : Expr) (f : MS → Out MV) : Prop := R.K = X.K → ∀ F, PE X e (tV R F W f)
def JT (X : Cx) (R : RC) (W : WX) (e : Expr) (f : MS → Out Bool) : Prop := R.K = X.K → ∀ F, PT X e (tT R F W f)
def JW (X : Cx) (R : RC) (W : WX) (e : Expr) (f : MS → Out Bool) : Prop := R.K = X.K → ∀ F, PW X e (tT R F W f)
/-- arguments: results -/
def RRs (R : RC) (σ : L2.St) (Hs : Hp) (G : Gh) (H : Hp) : List RV → List V → Prop
  | [], vs => vs = []
  | r :: rs, vs => ∃ v t, vs = v :: t ∧ RR R σ Hs G H r v ∧ RRs R σ Hs G H rs t
theorem RRs.mono {R : RC} {σ : L2.St} {Hs : Hp} {G G' : Gh} {H H' : Hp} (e : Evo EvT G H G' H') : ∀ {rs : List RV} {vs : List V}, RRs R σ Hs G H rs vs → RRs R σ Hs G' H' rs vs
  | [], _, h => h
  | _ :: _, _, ⟨v, t, q, a, b⟩ => ⟨v, t, q, a.mono e, RRs.mono e b⟩
theorem RRs.back {R : RC} {σ : L2.St} {H H1 : Hp} {G G1 G' : Gh} {H' : Hp} (e : Evo EvT G H G1 H1) : ∀ {rs : List RV} {vs : List V}, RRs R σ H1 G' H' rs vs → RRs R σ H G' H' rs vs
  | [], _, h => h
  | _ :: _, _, ⟨v, t, q, a, b⟩ => ⟨v, t, q, a.back e, RRs.back e b⟩
def rlR : RL (List RV) (List V) := ⟨fun R σ Hs G H r v => RRs R σ Hs G H r v, fun e h => h.mono e, fun e h => h.back e⟩
abbrev tR (R : RC) (F : FI) (W : WX) (f : MS → Out (List RV)) : TA := tX rlR R F W f
def JA (X : Cx) (R : RC) (W : WX) (es : List Expr) (f : MS → Out (List RV)) : Prop := R.K = X.K → ∀ F, PA X es (tR R F W f)

section
variable {X : Cx} {R : RC} {W : WX} {pos : Pos}
/-! ends: what a simple value gives -/
theorem fin {α β : Type} {L : RL α β} {F : FI} {σ : L2.St} {G G1 : Gh} {H H1 : Hp} {s1 : MS} {r : α} {v : β} {Q : β → Hp → Prop} (w : Way R F σ G H G1 H1 s1) (h : OutX L R F W σ G H (.ok r s1) Q) (rr : L.rel R σ H G1 H1 r v) : Q v H1 := h _ _ _ w.rel w.evo rr

def mC (x : MV) : ME := fun s => .ok (.v x) s
theorem se_int {i : Int} {j : Nat} : JE X R W (.Constant (.int i) j pos) (mC (.int i)) := fun _ F => PE.imp pe_int fun σ H Q ⟨G, s, rel, h⟩ => h G H _ rel .refl (show VR _ _ _ _ _ by unfold VR; rfl)
theorem se_bl {b : Bool} {j : Nat} : JE X R W (.Constant (.bool b) j pos) (mC (.bl b)) := fun _ F => PE.imp pe_bl fun σ H Q ⟨G, s, rel, h⟩ => h G H _ rel .refl (show VR _ _ _ _ _ by unfold VR; rfl)
theorem se_non {j : Nat} : JE X R W (.Constant .none j pos) (mC .non) := fun _ F => PE.imp pe_non fun σ H Q ⟨G, s, rel, h⟩ => h G H _ rel .refl (show VR _ _ _ _ _ by unfold VR; rfl)
theorem se_str {x : Str} {l : List Nat} {j : Nat} (e : x.cps.toList = l := by rfl) : JE X R W (.Constant (.str x) j pos) (mC (.str l)) := fun _ F => PE.imp pe_str fun σ H Q ⟨G, s, rel, h⟩ => h G H _ rel .refl (show VR _ _ _ _ _ by unfold VR; rw [← e])
def mVar (i : Nat) : ME := fun s => match s.env[i]? with
  | some (some (.v x)) => .ok (.v x) s
  | some (some (.own _)) => .ok (.loc i) s
  | _ => .bad
theorem se_var (i : Nat) {x : Str} (hN : X.N[i]? = some x := by rfl) (hv : Vis X.env.scope x := by first | exact Or.inl rfl | exact Or.inr (Or.inl rfl) | exact Or.inr (Or.inr rfl)) (hd : (x == ("__debug__" : Str)) = false := by decide)
    (hcd : (x == ("__classdict__" : Str)) = false := by decide) : JE X R W (.Name x pos) (mVar i) := fun _ F => PE.imp (pe_var hN hv hd hcd) fun σ H Q ⟨G, s, rel, h⟩ => by
  unfold mVar at h
  split at h
  · rename_i x hx
    obtain ⟨v, e, r⟩ := rel.env i _ hx
    exact ⟨v, e, h G H v rel .refl r⟩
  · rename_i c hx
    obtain ⟨v, e, r⟩ := rel.env i _ hx
    exact ⟨v, e, h G H v rel .refl e⟩
  · exact h.elim

/-! two operands -/
/-- the rule r of two values takes what the mini operation p gives -/
def PrimR (R : RC) (r : R2) (p : RV → RV → MS → Out RV) : Prop := ∀ {F : FI} {W : WX} {σ : L2.St} {G : Gh} {H : Hp} {G2 : Gh} {H2 : Hp} {s2 : MS} {r1 r2 : RV} {x y : V} {Q : VK},
  Way R F σ G H G2 H2 s2 → RR R σ H G2 H2 r1 x → RR R σ H G2 H2 r2 y → OutX rlE R F W σ G H (p r1 r2 s2) Q → r x y H2 Q
def mBin (p : RV → RV → MS → Out RV) (fa fb : ME) : ME := fun s => (fa s).bind fun r1 s1 => (fb s1).bind fun r2 s2 => p r1 r2 s2
theorem tBin {F : FI} {r : R2} {p : RV → RV → MS → Out RV} {fa fb : ME} (pr : PrimR R r p) : ∀ σ H Q, tE R F W (mBin p fa fb) σ H Q → tOp r (tE R F W fa) (tE R F W fb) σ H Q := fun σ H Q h => by
  refine (first (M := rlE) h).mono fun x H1 ⟨G0, r1, s1, G1, w, rr, o⟩ => ?_
  exact (next (M := rlE) w o).mono fun y H2 ⟨r2, s2, G2, w2, e, rr2, o2⟩ => pr w2 (rr.mono e) rr2 o2
theorem se_bin {op : Operator} {r : R2} {p : RV → RV → MS → Out RV} {a b : Expr} {fa fb : ME} (ho : OpR X (binaryOp op) r) (pr : R.K = X.K → PrimR R r p) (ha : JE X R W a fa) (hb : JE X R W b fb) : JE X R W (.BinOp a op b pos) (mBin p fa fb) := fun hK F =>
  PE.imp (pe_op ho (ha hK F) (hb hK F)) (tBin (pr hK))
theorem se_cmp {op : CmpOp} {r : R2} {p : RV → RV → MS → Out RV} {a b : Expr} {fa fb : ME} (ho : OpR X (compareOp op) r) (pr : R.K = X.K → PrimR R r p) (ha : JE X R W a fa) (hb : JE X R W b fb) (hm : behindInMarks op b = false := by rfl) : JE X R W (.Compare a [op] [b] pos) (mBin p fa fb) := fun hK F =>
  PE.imp (pe_cmpR ho (ha hK F) (hb hK F) hm) (tBin (pr hK))
end
end Mi
set_option Elab.async false
set_option linter.all false
set_option maxRecDepth 100000
set_option maxHeartbeats 4000000
namespace Mi
open PySem PySem.Spec PyProof.Rows L2

/-! new objects -/
section
variable {R : RC} {F : FI} {W : WX} {σ : L2.St} {G G1 : Gh} {H H1 : Hp} {s1 : MS} {Q : VK}
theorem newLst {xs : List MV} {vs : List V} (w : Way R F σ G H G1 H1 s1) (r : VRs R.K G1 H1 xs vs) (h : OutX rlE R F W σ G H (.ok (.own (.lst xs)) s1) Q) : ∀ p, H1 p = none → Q (.ref p) (upd H1 p (.lst vs)) := fun p hp => by
  have g := w.rel.noRole hp
  have hH := fresh_back w.evo hp
  exact h G1 _ _ (w.rel.alloc hp) (w.evo.updNew hH g) ⟨p, rfl, hH, g, vs, upd_same, VRs.mono (Mo.upd (by rw [g]; simp)) _ _ r⟩
theorem newTup {xs : List MV} {vs : List V} (w : Way R F σ G H G1 H1 s1) (r : VRs R.K G1 H1 xs vs) (h : OutX rlE R F W σ G H (.ok (.v (.tup xs)) s1) Q) : ∀ p, H1 p = none → Q (.ref p) (upd H1 p (.tup vs)) := fun p hp => by
  have g := w.rel.noRole hp
  have hH := fresh_back w.evo hp
  refine h (setG G1 p (some .frz)) _ _ ((w.rel.alloc (o := .tup vs) hp).setr g ⟨_, upd_same⟩ (fresh_back w.st hH) (.inl rfl)) ((w.evo.updNew hH g).setr hH g) ?_
  show VR _ _ _ _ _
  unfold VR
  refine ⟨p, vs, rfl, .inl ⟨setG_same, .inl upd_same⟩, ?_⟩
  refine VRs.mono (G := G1) (H := upd H1 p (.tup vs)) (Mo.setr g) _ _ ?_
  exact VRs.mono (Mo.upd (by rw [g]; simp)) _ _ r
end

/-! shapes -/
theorem VR.int {K : PySem.W.Frag} {G : Gh} {H : Hp} {i : Int} {v : V} (h : VR K G H (.int i) v) : v = .int i := by unfold VR at h; exact h
theorem VR.bl {K : PySem.W.Frag} {G : Gh} {H : Hp} {i : Bool} {v : V} (h : VR K G H (.bl i) v) : v = .bl i := by unfold VR at h; exact h
theorem VR.str {K : PySem.W.Frag} {G : Gh} {H : Hp} {i : List Nat} {v : V} (h : VR K G H (.str i) v) : v = .str ⟨i.toArray⟩ := by unfold VR at h; exact h
theorem VR.non {K : PySem.W.Frag} {G : Gh} {H : Hp} {v : V} (h : VR K G H .non v) : v = .non := by unfold VR at h; exact h
theorem VR.tup {K : PySem.W.Frag} {G : Gh} {H : Hp} {xs : List MV} {v : V} (h : VR K G H (.tup xs) v) : ∃ a vs, v = .ref a ∧ SqT K H a vs ∧ VRs K G H xs vs := by
  unfold VR at h
  obtain ⟨a, vs, q, f, r⟩ := h
  exact ⟨a, vs, q, f.sq, r⟩
theorem VR.mkInt {K : PySem.W.Frag} {G : Gh} {H : Hp} {i : Int} : VR K G H (.int i) (.int i) := by unfold VR; rfl
theorem VR.mkBl {K : PySem.W.Frag} {G : Gh} {H : Hp} {i : Bool} : VR K G H (.bl i) (.bl i) := by unfold VR; rfl
theorem VR.mkNon {K : PySem.W.Frag} {G : Gh} {H : Hp} : VR K G H .non .non := by unfold VR; rfl
theorem VR.mkStr {K : PySem.W.Frag} {G : Gh} {H : Hp} {i : List Nat} : VR K G H (.str i) (.str ⟨i.toArray⟩) := by unfold VR; rfl
theorem VR.mkStr' {K : PySem.W.Frag} {G : Gh} {H : Hp} {i : List Nat} {x : Str} (e : x.cps.toList = i) : VR K G H (.str i) (.str x) := by unfold VR; rw [← e]

section
variable {R : RC} {σ : L2.St} {Hs : Hp} {G : Gh} {H : Hp} {v : V}
theorem RR.int {i : Int} (h : RR R σ Hs G H (.v (.int i)) v) : v = .int i := VR.int (K := R.K) (G := G) (H := H) h
theorem RR.bl {i : Bool} (h : RR R σ Hs G H (.v (.bl i)) v) : v = .bl i := VR.bl (K := R.K) (G := G) (H := H) h
theorem RR.str {i : List Nat} (h : RR R σ Hs G H (.v (.str i)) v) : v = .str ⟨i.toArray⟩ := VR.str (K := R.K) (G := G) (H := H) h
theorem RR.non (h : RR R σ Hs G H (.v .non) v) : v = .non := VR.non (K := R.K) (G := G) (H := H) h
theorem RR.tup {xs : List MV} (h : RR R σ Hs G H (.v (.tup xs)) v) : ∃ a vs, v = .ref a ∧ SqT R.K H a vs ∧ VRs R.K G H xs vs := VR.tup (K := R.K) (G := G) (H := H) h
variable {F : FI} {W : WX} {G1 : Gh} {H1 : Hp} {s1 : MS} {Q : VK}
theorem finV {x : MV} (w : Way R F σ G H G1 H1 s1) (o : OutX rlE R F W σ G H (.ok (.v x) s1) Q) (r : VR R.K G1 H1 x v) : Q v H1 := o _ _ _ w.rel w.evo r
theorem finI {i : Int} (w : Way R F σ G H G1 H1 s1) (o : OutX rlE R F W σ G H (.ok (.v (.int i)) s1) Q) : Q (.int i) H1 := finV w o (VR.mkInt (K := R.K) (G := G1) (H := H1))
theorem finB {i : Bool} (w : Way R F σ G H G1 H1 s1) (o : OutX rlE R F W σ G H (.ok (.v (.bl i)) s1) Q) : Q (.bl i) H1 := finV w o (VR.mkBl (K := R.K) (G := G1) (H := H1))
theorem finN (w : Way R F σ G H G1 H1 s1) (o : OutX rlE R F W σ G H (.ok (.v .non) s1) Q) : Q .non H1 := finV w o (VR.mkNon (K := R.K) (G := G1) (H := H1))
theorem finS {i : List Nat} {x : Str} (w : Way R F σ G H G1 H1 s1) (o : OutX rlE R F W σ G H (.ok (.v (.str i)) s1) Q) (e : x.cps.toList = i) : Q (.str x) H1 := finV w o (VR.mkStr' (K := R.K) (G := G1) (H := H1) e)
end
/-! + -/
def rCatR : R2 := fun x y H Q => ∃ l b xs zs, x = .ref l ∧ y = .ref b ∧ Rd H l (.lst xs) ∧ Rd H b (.lst zs) ∧ xs.length + zs.length ≤ sizeLine ∧ ∀ p, H p = none → Q (.ref p) (upd H p (.lst (xs ++ zs)))
theorem op_catR {X : Cx} : OpR X (binaryOp .Add) rCatR := by
  intro pins s σ H x y v u Q I rx ry h
  obtain ⟨l, b, xs, zs, rfl, rfl, hH, hB, hz, q⟩ := h
  cases rx
  cases ry
  obtain ⟨z, its, n, r, e⟩ := hH.ok I.hok
  obtain ⟨z2, its2, n2, r2, e2⟩ := hB.ok I.hok
  have hl := r.length
  have hl2 := r2.length
  refine PySem.P.add_list e e2 ?_ (by rw [List.size_toArray, List.size_toArray]; omega)
  have ea : its.toArray ++ its2.toArray = (its ++ its2).toArray := by simp
  rw [ea]
  exact ⟨.ref _, _, I.lnew (t' := s.toks) (r.append r2) (by rw [List.length_append]; omega), rfl, q _ I.fresh⟩
def opAdd (r1 r2 : RV) (s : MS) : Out RV :=
  match r1, r2 with
  | .v (.int i), .v (.int j) => .ok (.v (.int (i + j))) s
  | .v (.str a), .v (.str b) => if a.length + b.length ≤ sizeLine then .ok (.v (.str (a ++ b))) s else .bad
  | .v (.tup a), .v (.tup b) => if a.length + b.length ≤ sizeLine then .ok (.v (.tup (a ++ b))) s else .bad
  | r1, r2 => match contW s r1, contW s r2 with
    | some (.lst a), some (.lst b) => if a.length + b.length ≤ sizeLine then .ok (.own (.lst (a ++ b))) s else .bad
    | _, _ => .bad
def rAddM (K : PySem.W.Frag) : R2 := fun x y H Q => (∃ i j, x = .int i ∧ y = .int j ∧ Q (.int (i + j)) H) ∨
  ((∃ i j, x = .str i ∧ y = .str j ∧ i.length + j.length ≤ sizeLine ∧ Q (.str (i ++ j)) H) ∨ (rCatA K x y H Q ∨ rCatR x y H Q))
theorem op_addM {X : Cx} : OpR X (binaryOp .Add) (rAddM X.K) := OpR.or op_add (OpR.or op_add_str (OpR.or op_catA op_catR))
theorem cat_part {R : RC} {F : FI} {W : WX} {σ : L2.St} {G : Gh} {H : Hp} {G2 : Gh} {H2 : Hp} {s2 : MS} {r1 r2 : RV} {x y : V} {Q : VK} (w : Way R F σ G H G2 H2 s2) (h1 : RR R σ H G2 H2 r1 x) (h2 : RR R σ H G2 H2 r2 y)
    (o : OutX rlE R F W σ G H (match contW s2 r1, contW s2 r2 with
    | some (.lst a), some (.lst b) => if a.length + b.length ≤ sizeLine then .ok (.own (.lst (a ++ b))) s2 else .bad
    | _, _ => .bad) Q) : rCatR x y H2 Q := by
  split at o
  · rename_i a b e1 e2
    split at o
    · rename_i hz
      obtain ⟨p, rfl, vs, k1, v1⟩ := contW_ok w.rel h1 e1
      obtain ⟨q, rfl, ws, k2, v2⟩ := contW_ok w.rel h2 e2
      exact ⟨p, q, vs, ws, rfl, rfl, .inl k1, .inl k2, by rw [← v1.length, ← v2.length]; exact hz, newLst w (v1.append v2) o⟩
    · exact o.elim
  · exact o.elim
theorem pr_add {R : RC} : PrimR R (rAddM R.K) opAdd := fun {F W σ G H G2 H2 s2 r1 r2 x y Q} w h1 h2 o => by
  unfold opAdd at o
  split at o
  · cases RR.int h1; cases RR.int h2
    exact .inl ⟨_, _, rfl, rfl, finI w o⟩
  · cases RR.str h1; cases RR.str h2
    split at o
    · rename_i hz
      refine .inr (.inl ⟨_, _, rfl, rfl, ?_, finS w o ?_⟩)
      · simpa [PySem.Str.length] using hz
      · exact Array.toList_append.trans (by simp only [List.toList_toArray])
    · exact o.elim
  · split at o
    · rename_i hz
      obtain ⟨a, vs, rfl, ka, va⟩ := RR.tup h1
      obtain ⟨b, ws, rfl, kb, vb⟩ := RR.tup h2
      refine .inr (.inr (.inl ⟨a, b, vs, ws, rfl, rfl, ka, kb, by rw [← va.length, ← vb.length]; exact hz, fun e => ?_, fun _ e => ?_, fun _ _ => newTup w (va.append vb) o⟩))
      · have := va.length; rw [e] at this
        rw [List.eq_nil_of_length_eq_zero this] at o
        exact finV w o h2
      · have := vb.length; rw [e] at this
        rw [List.eq_nil_of_length_eq_zero this, List.append_nil] at o
        exact finV w o h1
    · exact o.elim
  · exact .inr (.inr (.inr (cat_part w h1 h2 o)))
/-! ints -/
def opII (C : Int → Int → Prop) [∀ i j, Decidable (C i j)] (g : Int → Int → MV) (r1 r2 : RV) (s : MS) : Out RV :=
  match r1, r2 with
  | .v (.int i), .v (.int j) => if C i j then .ok (.v (g i j)) s else .bad
  | _, _ => .bad
theorem pr_II {R : RC} {C : Int → Int → Prop} [∀ i j, Decidable (C i j)] {g : Int → Int → MV} {gV : Int → Int → V} {r : R2} (hg : ∀ K G H i j, VR K G H (g i j) (gV i j)) (hr : ∀ i j H Q, C i j → Q (gV i j) H → r (.int i) (.int j) H Q) : PrimR R r (opII C g) := fun {F W σ G H G2 H2 s2 r1 r2 x y Q} w h1 h2 o => by
  unfold opII at o
  split at o
  · cases RR.int h1; cases RR.int h2
    split at o
    · rename_i hc
      exact hr _ _ _ _ hc (finV w o (hg _ _ _ _ _))
    · exact o.elim
  · exact o.elim
noncomputable instance : ∀ i j, Decidable (CMul i j) := fun _ _ => Classical.propDecidable _
noncomputable instance : ∀ i j, Decidable (CDiv i j) := fun _ _ => Classical.propDecidable _
noncomputable instance : ∀ i j, Decidable (CPow i j) := fun _ _ => Classical.propDecidable _
abbrev opSub := opII (fun _ _ => True) fun i j => .int (i - j)
noncomputable abbrev opMul := opII CMul fun i j => .int (i * j)
abbrev opMod := opII (fun _ j => 0 < j) fun i j => .int (i % j)
noncomputable abbrev opDiv := opII CDiv fun i j => .int (i / j)
noncomputable abbrev opPow := opII CPow fun i j => .int (i ^ j.toNat)
theorem pr_sub {R : RC} : PrimR R (rI0 fun i j => .int (i - j)) opSub := pr_II (fun _ _ _ _ _ => VR.mkInt) fun _ _ _ _ _ q => ⟨_, _, rfl, rfl, q⟩
theorem pr_mul {R : RC} : PrimR R (rI CMul fun i j => .int (i * j)) opMul := pr_II (fun _ _ _ _ _ => VR.mkInt) fun _ _ _ _ c q => ⟨_, _, rfl, rfl, c, q⟩
theorem pr_mod {R : RC} : PrimR R (rI (fun _ j => 0 < j) fun i j => .int (i % j)) opMod := pr_II (fun _ _ _ _ _ => VR.mkInt) fun _ _ _ _ c q => ⟨_, _, rfl, rfl, c, q⟩
theorem pr_div {R : RC} : PrimR R (rI CDiv fun i j => .int (i / j)) opDiv := pr_II (fun _ _ _ _ _ => VR.mkInt) fun _ _ _ _ c q => ⟨_, _, rfl, rfl, c, q⟩
theorem pr_pow {R : RC} : PrimR R (rI CPow fun i j => .int (i ^ j.toNat)) opPow := pr_II (fun _ _ _ _ _ => VR.mkInt) fun _ _ _ _ c q => ⟨_, _, rfl, rfl, c, q⟩
abbrev opLt := opII (fun _ _ => True) fun i j => .bl (decide (i < j))
abbrev opLe := opII (fun _ _ => True) fun i j => .bl (decide (i ≤ j))
abbrev opGt := opII (fun _ _ => True) fun i j => .bl (decide (j < i))
abbrev opGe := opII (fun _ _ => True) fun i j => .bl (decide (j ≤ i))
theorem pr_lt {R : RC} : PrimR R (rI0 fun i j => .bl (decide (i < j))) opLt := pr_II (fun _ _ _ _ _ => VR.mkBl) fun _ _ _ _ _ q => ⟨_, _, rfl, rfl, q⟩
theorem pr_le {R : RC} : PrimR R (rI0 fun i j => .bl (decide (i ≤ j))) opLe := pr_II (fun _ _ _ _ _ => VR.mkBl) fun _ _ _ _ _ q => ⟨_, _, rfl, rfl, q⟩
theorem pr_gt {R : RC} : PrimR R (rI0 fun i j => .bl (decide (j < i))) opGt := pr_II (fun _ _ _ _ _ => VR.mkBl) fun _ _ _ _ _ q => ⟨_, _, rfl, rfl, q⟩
theorem pr_ge {R : RC} : PrimR R (rI0 fun i j => .bl (decide (j ≤ i))) opGe := pr_II (fun _ _ _ _ _ => VR.mkBl) fun _ _ _ _ _ q => ⟨_, _, rfl, rfl, q⟩
/-! == of data -/
mutual
def pd : MV → Option PyData
  | .non => some .none
  | .bl b => some (.bool b)
  | .int i => some (.int i)
  | .str s => some (.str ⟨s.toArray⟩)
  | .tup xs => (pds xs).map .tuple
  | .lst xs => (pds xs).map .list
  | .dct _ _ => none
  | .ref _ => none
def pds : List MV → Option (List PyData)
  | [] => some []
  | x :: xs => match pd x, pds xs with | some d, some ds => some (d :: ds) | _, _ => none
end
mutual
theorem pd_ok {K : PySem.W.Frag} {G : Gh} {H : Hp} : ∀ (x : MV) (v : V) (d : PyData), VR K G H x v → pd x = some d → Dp K H v d
  | .non, _, _, h, e => by cases VR.non h; cases e; exact .non
  | .bl _, _, _, h, e => by cases VR.bl h; cases e; exact .bl _
  | .int _, _, _, h, e => by cases VR.int h; cases e; exact .int _
  | .str _, _, _, h, e => by cases VR.str h; cases e; exact .str _
  | .tup xs, _, _, h, e => by
    obtain ⟨a, vs, rfl, k, r⟩ := VR.tup h
    simp only [pd, Option.map_eq_some_iff] at e
    obtain ⟨ds, e1, rfl⟩ := e
    exact .tup k (pds_ok xs vs ds r e1)
  | .lst xs, _, _, h, e => by
    unfold VR at h
    obtain ⟨a, vs, rfl, k, r⟩ := h
    simp only [pd, Option.map_eq_some_iff] at e
    obtain ⟨ds, e1, rfl⟩ := e
    exact .lst k.sq (pds_ok xs vs ds r e1)
  | .dct _ _, _, _, _, e => by cases e
  | .ref _, _, _, _, e => by cases e
theorem pds_ok {K : PySem.W.Frag} {G : Gh} {H : Hp} : ∀ (x : List MV) (v : List V) (d : List PyData), VRs K G H x v → pds x = some d → DpAll K H v d
  | [], _, _, h, e => by unfold VRs at h; subst h; cases e; exact .nil
  | x :: xs, _, _, h, e => by
    obtain ⟨v, r, rfl, p, q⟩ := h.inv
    simp only [pds] at e
    split at e
    · rename_i d ds e1 e2
      cases e
      exact .cons (pd_ok x v d p e1) (pds_ok xs r ds q e2)
    · cases e
end
def rpd (s : MS) : RV → Option PyData
  | .v (.ref n) => match cont s (.v (.ref n)) with | some (.lst xs) => (pds xs).map .list | _ => none
  | .v x => pd x
  | r => match cont s r with | some (.lst xs) => (pds xs).map .list | _ => none
theorem rpd_ok {R : RC} {F : FI} {σ : L2.St} {G : Gh} {H Hs : Hp} {s : MS} {r : RV} {v : V} {d : PyData} (rel : Rel R F G s σ H) (rr : RR R σ Hs G H r v) (e : rpd s r = some d) : Dp R.K H v d := by
  have key : ∀ {xs : List MV}, cont s r = some (.lst xs) → (pds xs).map .list = some d → Dp R.K H v d := fun {xs} c q => by
    obtain ⟨a, rfl, vs, k, w⟩ := cont_ok rel rr c
    simp only [Option.map_eq_some_iff] at q
    obtain ⟨ds, e1, rfl⟩ := q
    exact .lst k (pds_ok xs vs ds w e1)
  unfold rpd at e
  split at e
  · split at e
    · rename_i xs c; exact key c e
    · cases e
  · exact pd_ok _ _ _ rr e
  · split at e
    · rename_i xs c; exact key c e
    · cases e
def opEqv (neg : Bool) (r1 r2 : RV) (s : MS) : Out RV := match rpd s r1, rpd s r2 with
  | some d, some e => if SeqAt.shaped d = true ∧ SeqAt.shaped e = true then .ok (.v (.bl (neg ^^ PyData.eqv d e))) s else .bad
  | _, _ => .bad
theorem pr_eqv {R : RC} : PrimR R (rEqD R.K) (opEqv false) := fun {F W σ G H G2 H2 s2 r1 r2 x y Q} w h1 h2 o => by
  unfold opEqv at o
  split at o
  · rename_i d e e1 e2
    split at o
    · rename_i hs
      refine ⟨d, e, rpd_ok w.rel h1 e1, rpd_ok w.rel h2 e2, hs.1, hs.2, ?_⟩
      have := finB w o
      simpa using this
    · exact o.elim
  · exact o.elim
theorem pr_nev {R : RC} : PrimR R (rNeD R.K) (opEqv true) := fun {F W σ G H G2 H2 s2 r1 r2 x y Q} w h1 h2 o => by
  unfold opEqv at o
  split at o
  · rename_i d e e1 e2
    split at o
    · rename_i hs
      refine ⟨d, e, rpd_ok w.rel h1 e1, rpd_ok w.rel h2 e2, hs.1, hs.2, ?_⟩
      have := finB w o
      simpa using this
    · exact o.elim
  · exact o.elim
end Mi
set_option Elab.async false
set_option linter.all false
set_option maxRecDepth 100000
set_option maxHeartbeats 4000000
namespace Mi
open PySem PySem.Spec PyProof.Rows L2

/-! sharing -/
def share (r : RV) (s : MS) : Out MV := match r with
  | .v x => .ok x s
  | .own c => if isLk c = true then .bad else .ok (frzC c) s
  | .loc i => match s.env[i]? with
    | some (some (.own c)) => if isLk c = true then .bad else .ok (frzC c) { s with env := s.env.set i (some (.v (frzC c))) }
    | _ => .bad
  | .fld _ _ => .bad
def shares : List RV → MS → Out (List MV)
  | [], s => .ok [] s
  | r :: rs, s => (share r s).bind fun x s1 => (shares rs s1).bind fun xs s2 => .ok (x :: xs) s2
section
variable {R : RC} {F : FI} {W : WX} {σ : L2.St} {G G1 : Gh} {H H1 : Hp} {s1 : MS}
theorem CR.frz {K : PySem.W.Frag} {a : Addr} {c : C} (nl : isLk c = false) (h : CR K G H c a) (g : G a = some .frz) : VR K G H (frzC c) (.ref a) := by
  cases c with
  | lst xs =>
    obtain ⟨vs, e, r⟩ := h
    show VR _ _ _ (.lst xs) _
    unfold VR
    exact ⟨a, vs, rfl, .inl ⟨g, .inl e⟩, r⟩
  | dict kvs =>
    obtain ⟨ho, e, r⟩ := h
    show VR _ _ _ (.dct _ _) _
    unfold VR
    exact ⟨a, ho, rfl, g, e, r⟩
  | lock kvs => cases nl
theorem share_noexc {r : RV} {c : Nat} {xs : List MV} {s2 : MS} : share r s1 ≠ .exc c xs s2 := by
  intro q
  cases r <;> simp only [share] at q <;> first | cases q | (split at q <;> first | cases q | (split at q <;> cases q))
/-- a result is shared: what is behind; only roles change -/
theorem share_ok {r : RV} {v : V} {x : MV} {s2 : MS} (w : Way R F σ G H G1 H1 s1) (rr : RR R σ H G1 H1 r v) (q : share r s1 = .ok x s2) :
    ∃ G2, Way R F σ G H G2 H1 s2 ∧ Mo G1 H1 G2 H1 ∧ VR R.K G2 H1 x v := by
  cases r with
  | v y => cases q; exact ⟨G1, w, ⟨fun _ g => ⟨g, rfl⟩, fun _ _ g => g⟩, rr⟩
  | own c =>
    simp only [share] at q
    split at q
    · cases q
    rename_i nl
    have nl : isLk c = false := by simpa using nl
    cases q
    obtain ⟨a, rfl, hn, g, cr⟩ := rr
    have h0 : F.H0 a = none := fresh_back w.st hn
    exact ⟨setG G1 a (some .frz), ⟨w.rel.setr g cr.there h0 (.inl rfl), w.evo.setr hn g, w.st⟩, Mo.setr g, CR.frz nl (cr.mono (Mo.setr g) rfl) setG_same⟩
  | loc i =>
    simp only [share] at q
    split at q
    · rename_i c hc
      split at q
      · cases q
      rename_i nl
      have nl : isLk c = false := by simpa using nl
      cases q
      obtain ⟨u, q, a, ev, g, cr⟩ := w.rel.env i _ hc
      have rr' : σ[i]? = some (some v) := rr
      rw [rr'] at q; cases q
      subst ev
      have m : Mo G1 H1 (setG G1 a (some .frz)) H1 := Mo.rerole g
      have vr := CR.frz nl (cr.mono m rfl) setG_same
      exact ⟨setG G1 a (some .frz), ⟨w.rel.rerole g (.inl rfl) rr' (sv := some (.v (frzC c))) fun x e => by cases e; exact vr, w.evo.rerole g, w.st⟩, m, vr⟩
    · cases q
  | fld n f => cases q
theorem share_way {r : RV} {v : V} {α β : Type} {L : RL α β} {k : MV → MS → Out α} {Q : β → Hp → Prop} (w : Way R F σ G H G1 H1 s1) (rr : RR R σ H G1 H1 r v) (o : OutX L R F W σ G H ((share r s1).bind k) Q) :
    ∃ x s2 G2, Way R F σ G H G2 H1 s2 ∧ Mo G1 H1 G2 H1 ∧ VR R.K G2 H1 x v ∧ OutX L R F W σ G H (k x s2) Q := by
  cases q : share r s1 with
  | ok x s2 =>
    rw [q] at o
    obtain ⟨G2, w2, m, vr⟩ := share_ok w rr q
    exact ⟨x, s2, G2, w2, m, vr, o⟩
  | exc c xs s2 => exact absurd q share_noexc
  | bad => rw [q] at o; exact o.elim
end
/-- an expression, its value shared -/
def mSh (f : ME) : MS → Out MV := fun s => (f s).bind fun r s1 => share r s1
theorem jv_of {X : Cx} {R : RC} {W : WX} {e : Expr} {f : ME} (h : JE X R W e f) : JV X R W e (mSh f) := fun hK F => PE.imp (h hK F) fun σ H Q q => by
  refine (first (M := rlE) q).mono fun y H1 ⟨G, r, s1, G1, w, rr, o⟩ => ?_
  have o' : OutX rlV R F W σ G H ((share r s1).bind fun x s2 => .ok x s2) Q := by
    cases q : share r s1 with
    | ok x s2 => rw [q] at o; exact o
    | exc c xs s2 => rw [q] at o; exact o
    | bad => rw [q] at o; exact o
  obtain ⟨x, s2, G2, w2, _, vr, o2⟩ := share_way w rr o'
  exact o2 _ _ _ w2.rel w2.evo vr

/-! arguments -/
section
variable {X : Cx} {R : RC} {W : WX} {pos : Pos}
theorem ja_nil : JA X R W [] (fun s => .ok [] s) := fun _ F => PA.imp pa_nil fun σ H Q ⟨G, s, rel, h⟩ => h G H _ rel .refl rfl
def mCons (f : ME) (fs : MS → Out (List RV)) : MS → Out (List RV) := fun s => (f s).bind fun r s1 => (fs s1).bind fun rs s2 => .ok (r :: rs) s2
theorem ja_cons {e : Expr} {es : List Expr} {f : ME} {fs : MS → Out (List RV)} (he : JE X R W e f) (hs : JA X R W es fs) (hst : starEach (e :: es) X.env = (false, eval e X.env) :: starEach es X.env := by rfl) : JA X R W (e :: es) (mCons f fs) := fun hK F =>
  PA.imp (pa_cons (he hK F) (hs hK F) hst) fun σ H Q h => by
    refine (first (M := rlE) h).mono fun x H1 ⟨G, r1, s1, G1, w, rr, o⟩ => ?_
    exact (next (M := rlR) w o).mono fun ys H2 ⟨rs, s2, G2, w2, e12, rr2, o2⟩ => o2 _ _ _ w2.rel w2.evo ⟨x, ys, rfl, rr.mono e12, rr2⟩
/-- all arguments shared -/
def JAs (X : Cx) (R : RC) (W : WX) (es : List Expr) (f : MS → Out (List MV)) : Prop := R.K = X.K → ∀ F, PA X es (tVs R F W f)
theorem jas_nil : JAs X R W [] (fun s => .ok [] s) := fun _ F => PA.imp pa_nil fun σ H Q ⟨G, s, rel, h⟩ => h G H _ rel .refl (VRs.nil (K := R.K) (G := G) (H := H))
def mConsS (f : ME) (fs : MS → Out (List MV)) : MS → Out (List MV) := fun s => (mSh f s).bind fun r s1 => (fs s1).bind fun rs s2 => .ok (r :: rs) s2
theorem jas_cons {e : Expr} {es : List Expr} {f : ME} {fs : MS → Out (List MV)} (he : JE X R W e f) (hs : JAs X R W es fs) (hst : starEach (e :: es) X.env = (false, eval e X.env) :: starEach es X.env := by rfl) : JAs X R W (e :: es) (mConsS f fs) := fun hK F =>
  PA.imp (pa_cons (jv_of he hK F) (hs hK F) hst) fun σ H Q h => by
    refine (first (M := rlV) h).mono fun x H1 ⟨G, r1, s1, G1, w, rr, o⟩ => ?_
    exact (next (M := rlS) w o).mono fun ys H2 ⟨rs, s2, G2, w2, e12, rr2, o2⟩ => o2 _ _ _ w2.rel w2.evo (VRs.cons (VR.mono e12.mo _ _ rr) rr2)
/-! displays -/
def mTup (fs : MS → Out (List MV)) : ME := fun s => (fs s).bind fun xs s1 => if xs.length ≤ sizeLine then .ok (.v (.tup xs)) s1 else .bad
def mLst (fs : MS → Out (List MV)) : ME := fun s => (fs s).bind fun xs s1 => if xs.length ≤ sizeLine then .ok (.own (.lst xs)) s1 else .bad
theorem je_tup {es : List Expr} {fs : MS → Out (List MV)} {x1} (h : JAs X R W es fs) : JE X R W (.Tuple es x1 pos) (mTup fs) := fun hK F => PE.imp (pe_tup (h hK F)) fun σ H Q q => by
  refine (first (M := rlS) q).mono fun vs H1 ⟨G, xs, s1, G1, w, rr, o⟩ => ?_
  split at o
  · rename_i hz
    exact ⟨by rw [← VRs.length rr]; exact hz, newTup w rr o⟩
  · exact o.elim
theorem je_lst {es : List Expr} {fs : MS → Out (List MV)} (h : JAs X R W es fs) : JE X R W (.List es pos) (mLst fs) := fun hK F => PE.imp (pe_lst (h hK F)) fun σ H Q q => by
  refine (first (M := rlS) q).mono fun vs H1 ⟨G, xs, s1, G1, w, rr, o⟩ => ?_
  split at o
  · rename_i hz
    exact ⟨by rw [← VRs.length rr]; exact hz, newLst w rr o⟩
  · exact o.elim
/-- a new list with an address of its own in the mini heap -/
def mBox (f : ME) : ME := fun s => (f s).bind fun r s1 => match r with
  | .own c => .ok (.v (.ref s1.hp.length)) { s1 with hp := s1.hp ++ [.box c] }
  | _ => .bad
theorem HRel.push {R : RC} {G : Gh} {H : Hp} {hp : List MO} {a : Addr} {o : MO} (h : HRel R G hp H) (g : G a = none) (ha : ∃ u, H a = some u) (new : ORel R (setG G a (some (.obj hp.length))) H a hp.length o) : HRel R (setG G a (some (.obj hp.length))) (hp ++ [o]) H := by
  have ne : ∀ b, G b ≠ none → b ≠ a := fun b hb z => hb (z ▸ g)
  have m : Mo G H (setG G a (some (.obj hp.length))) H := Mo.setr g
  refine ⟨fun n u e => ?_, fun b c n hb hc => ?_, fun b n e => ?_, fun b n f e => ?_, fun b r e => ?_⟩
  · by_cases hn : n < hp.length
    · rw [List.getElem?_append_left hn] at e
      obtain ⟨b, gb, r⟩ := h.objs n u e
      exact ⟨b, m.ob b n gb, r.mono m rfl fun c f gc => ⟨by rw [setG_ne (ne c (by rw [gc]; simp))]; exact gc, rfl⟩⟩
    · rw [List.getElem?_append_right (by omega)] at e
      have hn' : n = hp.length := by
        have := (List.getElem?_eq_some_iff.mp e).1
        simp at this; omega
      subst hn'
      simp at e; subst e
      exact ⟨a, setG_same, new⟩
  · by_cases zb : b = a
    · by_cases zc : c = a
      · rw [zb, zc]
      · rw [zb, setG_same] at hb; cases hb
        rw [setG_ne zc] at hc
        exact absurd (h.lt c _ hc) (Nat.lt_irrefl _)
    · rw [setG_ne zb] at hb
      by_cases zc : c = a
      · rw [zc, setG_same] at hc; cases hc
        exact absurd (h.lt b _ hb) (Nat.lt_irrefl _)
      · rw [setG_ne zc] at hc; exact h.uniq b c n hb hc
  · by_cases zb : b = a
    · rw [zb, setG_same] at e; cases e; simp
    · rw [setG_ne zb] at e; have := h.lt b n e; simp; omega
  · have zb : b ≠ a := fun z => by rw [z, setG_same] at e; cases e
    rw [setG_ne zb] at e
    obtain ⟨c, cl, fs, dx, hfs, nm, gc, hn, q⟩ := h.fldOk b n f e
    refine ⟨c, cl, fs, dx, hfs, nm, m.ob c n gc, ?_, q⟩
    rw [List.getElem?_append_left (h.lt c n gc)]; exact hn
  · by_cases zb : b = a
    · rw [zb]; exact ha
    · rw [setG_ne zb] at e; exact h.live b r e
theorem je_box {e : Expr} {f : ME} (h : JE X R W e f) : JE X R W e (mBox f) := fun hK F => PE.imp (h hK F) fun σ H Q q => by
  refine (first (M := rlE) q).mono fun y H1 ⟨G, r, s1, G1, w, rr, o⟩ => ?_
  split at o
  · rename_i c
    obtain ⟨a, rfl, hn, g, cr⟩ := rr
    have h0 : F.H0 a = none := fresh_back w.st hn
    have m : Mo G1 H1 (setG G1 a (some (.obj s1.hp.length))) H1 := Mo.setr g
    refine o (setG G1 a (some (.obj s1.hp.length))) H1 _ ⟨w.rel.hp.push g cr.there (cr.mono m rfl), w.rel.len, fun i sv q => ?_, w.rel.since.setr h0 g, w.rel.base, Nat.le_trans w.rel.le (by simp), w.rel.ent⟩ (w.evo.setr hn g) ?_
    · obtain ⟨v, q1, k⟩ := w.rel.env i sv q
      refine ⟨v, q1, ?_⟩
      cases sv with
      | v x => exact VR.mono m x v k
      | own c =>
        obtain ⟨b, q2, gb, k⟩ := k
        exact ⟨b, q2, by rw [setG_ne fun z => by rw [z, g] at gb; cases gb]; exact gb, k.mono m rfl⟩
    · show VR _ _ _ _ _
      unfold VR
      exact ⟨a, rfl, setG_same⟩
  · exact o.elim
end
end Mi
set_option Elab.async false
set_option linter.all false
set_option maxRecDepth 100000
set_option maxHeartbeats 4000000
namespace Mi
open PySem PySem.Spec PyProof.Rows L2
/-- the content at a place that may be written -/
def place (s : MS) : RV → Option C
  | .loc i => match s.env[i]? with | some (some (.own c)) => some c | _ => none
  | .fld n f => match s.hp[n]? with
    | some (.inst _ fs) => match fs[f]? with | some (some (.own c)) => some c | _ => none
    | _ => none
  | .v (.ref n) => match s.hp[n]? with | some (.box c) => some c | _ => none
  | _ => none
def putFld (hp : List MO) (n f : Nat) (sv : Option SV) : List MO := match hp[n]? with
  | some (.inst c fs) => hp.set n (.inst c (fs.set f sv))
  | _ => hp
def putC (s : MS) (r : RV) (c : C) : MS := match r with
  | .loc i => { s with env := s.env.set i (some (.own c)) }
  | .fld n f => { s with hp := putFld s.hp n f (some (.own c)) }
  | .v (.ref n) => { s with hp := s.hp.set n (.box c) }
  | _ => s
section
variable {R : RC} {F : FI} {σ : L2.St} {G : Gh} {H : Hp} {s : MS} {Hs : Hp}
theorem HRel.role {hp : List MO} {a b : Addr} {n : Nat} (h : HRel R G hp H) (ga : G a = some (.obj n)) (gb : G b = some (.obj n)) : a = b := h.uniq a b n ga gb
/-- one object of the heap is written: at a, the object n's, or a field's container of it -/
theorem HRel.put {hp : List MO} {a b : Addr} {n : Nat} {o : MO} {ho : HO} (h : HRel R G hp H) (ga : G a = some (.obj n)) (hb : b = a ∨ ∃ f, G b = some (.fld n f)) (new : ORel R G (L2.upd H b ho) a n o)
    (fl : ∀ c f, G c = some (.fld n f) → ∃ cl fs dx hfs nm, o = .inst cl fs ∧ (L2.upd H b ho) a = some (.ins (R.cls cl) dx hfs) ∧ (R.flds cl)[f]? = some nm ∧ hfs.lookup nm = some (.ref c) ∧ ∃ C, fs[f]? = some (some (.own C))) : HRel R G (hp.set n o) (L2.upd H b ho) := by
  have gbn : ∃ r, G b = some r ∧ r ≠ .frz ∧ (∀ m, r = .obj m → m = n) ∧ (∀ m f, r = .fld m f → m = n) := by
    rcases hb with rfl | ⟨f, g⟩
    · refine ⟨_, ga, by simp, ?_, ?_⟩
      · intro m e; cases e; rfl
      · intro m f e; cases e
    · refine ⟨_, g, by simp, ?_, ?_⟩
      · intro m e; cases e
      · intro m f' e; cases e; rfl
  obtain ⟨r, gr, nf, no, nfl⟩ := gbn
  have m : Mo G H G (L2.upd H b ho) := Mo.upd (by rw [gr]; intro z; cases z; exact nf rfl)
  refine ⟨fun k u e => ?_, h.uniq, fun c k gc => by rw [List.length_set]; exact h.lt c k gc, fun c k f gc => ?_, fun c q gc => ?_⟩
  · by_cases hk : k = n
    · subst hk
      have hl : k < hp.length := h.lt a k ga
      rw [List.getElem?_set_self hl] at e
      cases e
      exact ⟨a, ga, new⟩
    · rw [List.getElem?_set_ne (Ne.symm hk)] at e
      obtain ⟨c, gc, q⟩ := h.objs k u e
      refine ⟨c, gc, q.mono m ?_ fun d f gd => ⟨gd, ?_⟩⟩
      · exact upd_ne fun z => hk (by rw [z, gr] at gc; exact no k (Option.some.inj gc))
      · exact upd_ne fun z => hk (by rw [z, gr] at gd; exact nfl k f (Option.some.inj gd))
  · by_cases hk : k = n
    · subst hk
      obtain ⟨cl, fs, dx, hfs, nm, e, q⟩ := fl c f gc
      exact ⟨a, cl, fs, dx, hfs, nm, ga, by rw [List.getElem?_set_self (h.lt a k ga), e], q⟩
    · obtain ⟨d, cl, fs, dx, hfs, nm, gd, hn, hd, q⟩ := h.fldOk c k f gc
      refine ⟨d, cl, fs, dx, hfs, nm, gd, by rw [List.getElem?_set_ne (Ne.symm hk)]; exact hn, ?_, q⟩
      exact (upd_ne fun z => hk (by rw [z, gr] at gd; exact no k (Option.some.inj gd))).trans hd
  · by_cases z : c = b
    · subst z; exact ⟨_, upd_same⟩
    · rw [upd_ne z]; exact h.live c q gc
/-- the slots stay -/
theorem env_keep {G' : Gh} {H' : Hp} {env : List (Option SV)} (m : Mo G H G' H') (h : ∀ i sv, env[i]? = some (some sv) → ∃ v, σ[i]? = some (some v) ∧ LSlot R G H i sv v) (hl : ∀ a i, G a = some (.loc i) → G' a = some (.loc i) ∧ H' a = H a) :
    ∀ i sv, env[i]? = some (some sv) → ∃ v, σ[i]? = some (some v) ∧ LSlot R G' H' i sv v := fun i sv e => by
  obtain ⟨v, q, k⟩ := h i sv e
  refine ⟨v, q, ?_⟩
  cases sv with
  | v x => exact VR.mono m x v k
  | own c =>
    obtain ⟨b, q2, gb, k⟩ := k
    exact ⟨b, q2, (hl b i gb).1, k.mono m (hl b i gb).2⟩
theorem place_cont {r : RV} {c : C} (e : place s r = some c) : cont s r = some c := by
  cases r with
  | loc i => exact e
  | fld n f => exact e
  | own c => cases e
  | v x => cases x <;> first | exact e | cases e
/-- a write at a place -/
theorem put_ok {r : RV} {v : V} {c c' : C} (rel : Rel R F G s σ H) (rr : RR R σ Hs G H r v) (e : place s r = some c) (nl : isLk c = false := by rfl) : ∃ a, v = .ref a ∧ CR R.K G H c a ∧ (∃ q, G a = some q ∧ q ≠ .frz) ∧
    ∀ ho, CR R.K G (upd H a ho) c' a → Rel R F G (putC s r c') σ (upd H a ho) := by
  cases r with
  | own c => cases e
  | loc i =>
    simp only [place] at e
    split at e
    · rename_i c0 hc
      cases e
      obtain ⟨u, q, a, ev, g, cr⟩ := rel.env i _ hc
      have rr' : σ[i]? = some (some v) := rr
      rw [rr'] at q; cases q
      subst ev
      refine ⟨a, rfl, cr, ⟨_, g, by simp⟩, fun ho new => ?_⟩
      have m : Mo G H G (upd H a ho) := Mo.upd (by rw [g]; simp)
      refine ⟨rel.hp.upd (.inr ⟨i, g⟩), by simpa [putC] using rel.len, fun j sv ej => ?_, rel.since.trans (Evo.updRole (by rw [g]; simp) (by rw [g]; simp) (CR.nf nl cr)), rel.base, rel.le, rel.ent⟩
      have hl : i < s.env.length := by rw [rel.len]; exact (List.getElem?_eq_some_iff.mp rr').1
      by_cases z : j = i
      · subst z
        simp only [putC, List.getElem?_set_self hl] at ej
        cases ej
        exact ⟨_, rr', a, rfl, g, new⟩
      · simp only [putC, List.getElem?_set_ne (Ne.symm z)] at ej
        obtain ⟨w, q, k⟩ := rel.env j sv ej
        refine ⟨w, q, ?_⟩
        cases sv with
        | v x => exact VR.mono m x w k
        | own c =>
          obtain ⟨b, q2, gb, k⟩ := k
          exact ⟨b, q2, gb, k.mono m (upd_ne fun y => z (by rw [y, g] at gb; cases gb; rfl))⟩
    · cases e
  | fld n f =>
    simp only [place] at e
    split at e
    · rename_i cl fs hn
      split at e
      · rename_i c0 hc
        cases e
        obtain ⟨b, ev, gb⟩ := rr
        obtain ⟨a, ga, dx, hfs, ha, hlen, hf, hno, hln, hnd, hks⟩ := rel.hp.objs n _ hn
        obtain ⟨a', cl2, fs2, dx', hfs', nm, ga', hn2, ha', hnm, hl, _⟩ := rel.hp.fldOk b n f gb
        have ea := rel.hp.uniq _ _ _ ga ga'
        subst ea
        rw [hn] at hn2
        cases hn2
        rw [ha] at ha'
        cases ha'
        have fs1 := hf f _ hnm
        rw [hc, hl] at fs1
        obtain ⟨b', hb', gb', cr⟩ := fs1
        cases hb'
        subst ev
        refine ⟨b, rfl, cr, ⟨_, gb, by simp⟩, fun ho new => ?_⟩
        have m : Mo G H G (upd H b ho) := Mo.upd (by rw [gb]; simp)
        have nab : a ≠ b := fun z => by rw [z, gb] at ga; cases ga
        have flt : f < fs.length := (List.getElem?_eq_some_iff.mp hc).1
        refine ⟨?_, rel.len, ?_, rel.since.trans (Evo.updRole (by rw [gb]; simp) (by rw [gb]; simp) (CR.nf nl cr)), rel.base, ?_, rel.ent⟩
        · show HRel R G (putFld s.hp n f _) _
          unfold putFld
          rw [hn]
          refine rel.hp.put ga (.inr ⟨f, gb⟩) ⟨dx, hfs, (upd_ne nab).trans ha, by simpa using hlen, fun g nm' eg => ?_, hno, hln, hnd, hks⟩ fun c g gc => ?_
          · by_cases z : g = f
            · subst z
              rw [List.getElem?_set_self flt]
              rw [hnm] at eg; cases eg
              exact ⟨b, hl, gb, new⟩
            · rw [List.getElem?_set_ne (Ne.symm z)]
              exact (hf g nm' eg).mono m fun d gd => ⟨gd, upd_ne fun y => z (by rw [y, gb] at gd; cases gd; rfl)⟩
          · obtain ⟨a3, cl3, fs3, dx3, hfs3, nm3, ga3, hn3, ha3, q3⟩ := rel.hp.fldOk c n g gc
            have ea3 := rel.hp.uniq _ _ _ ga ga3
            subst ea3
            rw [hn] at hn3; cases hn3
            rw [ha] at ha3; cases ha3
            obtain ⟨q31, q32, C, q33⟩ := q3
            refine ⟨_, _, dx, hfs, nm3, rfl, (upd_ne nab).trans ha, q31, q32, ?_⟩
            by_cases z : g = f
            · subst z; exact ⟨_, List.getElem?_set_self flt⟩
            · exact ⟨C, by rw [List.getElem?_set_ne (Ne.symm z)]; exact q33⟩
        · exact env_keep m rel.env fun d i gd => ⟨gd, upd_ne fun y => by rw [y, gb] at gd; cases gd⟩
        · show F.base ≤ (putFld s.hp n f _).length
          unfold putFld
          rw [hn]
          simpa using rel.le
      · cases e
    · cases e
  | v x =>
    cases x with
    | ref n =>
      simp only [place] at e
      split at e
      · rename_i c0 hc
        cases e
        have rr' : VR R.K G H (.ref n) v := rr
        unfold VR at rr'
        obtain ⟨a, q, g⟩ := rr'
        obtain ⟨a', ga', cr⟩ := rel.hp.objs n _ hc
        have ea := rel.hp.uniq _ _ _ g ga'
        subst ea
        subst q
        refine ⟨a, rfl, cr, ⟨_, g, by simp⟩, fun ho new => ?_⟩
        have m : Mo G H G (upd H a ho) := Mo.upd (by rw [g]; simp)
        refine ⟨rel.hp.put g (.inl rfl) new fun c f gc => ?_, rel.len, env_keep m rel.env fun d i gd => ⟨gd, upd_ne fun y => by rw [y, g] at gd; cases gd⟩, rel.since.trans (Evo.updRole (by rw [g]; simp) (by rw [g]; simp) (CR.nf nl cr)), rel.base, by simpa [putC] using rel.le, rel.ent⟩
        obtain ⟨a3, cl3, fs3, dx3, hfs3, nm3, ga3, hn3, q3⟩ := rel.hp.fldOk c n f gc
        rw [hc] at hn3; cases hn3
      · cases e
    | non => cases e
    | bl b => cases e
    | int i => cases e
    | str s => cases e
    | tup xs => cases e
    | lst xs => cases e
    | dct a b => cases e
end
end Mi
set_option Elab.async false
set_option linter.all false
set_option maxRecDepth 100000
set_option maxHeartbeats 4000000
namespace Mi
open PySem PySem.Spec PyProof.Rows L2
theorem op_in_str1 {X : Cx} : OpR X (compareOp .In) (fun x y H Q => ∃ i j, x = .str i ∧ y = .str j ∧ Q (.bl (!(Builtin.Str.occurrences j i 0 j.length 1).isEmpty)) H) := L2.op_in_str
section
variable {X : Cx} {R : RC} {W : WX} {pos : Pos}
/-! built-ins by their arguments -/
def PrimC (R : RC) (r : List V → Hp → VK → Prop) (p : List RV → MS → Out RV) : Prop := ∀ {F : FI} {W : WX} {σ : L2.St} {G : Gh} {H : Hp} {G2 : Gh} {H2 : Hp} {s2 : MS} {rs : List RV} {vs : List V} {Q : VK},
  Way R F σ G H G2 H2 s2 → RRs R σ H G2 H2 rs vs → OutX rlE R F W σ G H (p rs s2) Q → r vs H2 Q
def mCallB (p : List RV → MS → Out RV) (fa : MS → Out (List RV)) : ME := fun s => (fa s).bind p
theorem tCallB {F : FI} {r : List V → Hp → VK → Prop} {p : List RV → MS → Out RV} {fa : MS → Out (List RV)} (pr : PrimC R r p) : ∀ σ H Q, tE R F W (mCallB p fa) σ H Q → tCB r (tR R F W fa) σ H Q := fun σ H Q h =>
  (first (M := rlR) h).mono fun vs H1 ⟨G, rs, s1, G1, w, rr, o⟩ => pr w rr o
theorem je_callB {x : Str} {id : String} {r : List V → Hp → VK → Prop} {p : List RV → MS → Out RV} {e : Expr} {es : List Expr} {fa : MS → Out (List RV)} {pp : Pos} (hc : CallR X (.builtin id) r) (pr : R.K = X.K → PrimC R r p) (hm : X.mg x = none) (hv : bootBuiltins x = some (.builtin id)) (ha : JA X R W (e :: es) fa) (hg : Gl X x := by rfl)
    (hn : x ≠ "__name__" := by decide) (hdb : (x == ("__debug__" : Str)) = false := by decide) (he : starEach (e :: es) X.env = (false, eval e X.env) :: starEach es X.env := by rfl) (hpl : (backTo pos (starEach es X.env)).any (·.1) = false := by rfl) :
    JE X R W (.Call (.Name x pp) (e :: es) [] pos) (mCallB p fa) := fun hK F => PE.imp (pe_callB hc hg hm hv (ha hK F) hn hdb he hpl) (tCallB (pr hK))
theorem je_callTy {x : Str} {T : String} {r : List V → Hp → VK → Prop} {p : List RV → MS → Out RV} {e : Expr} {es : List Expr} {fa : MS → Out (List RV)} {pp : Pos} (hc : CallR X (.type T) r) (pr : R.K = X.K → PrimC R r p) (hm : X.mg x = none) (hv : bootBuiltins x = some (.type T)) (ha : JA X R W (e :: es) fa) (hg : Gl X x := by rfl)
    (hn : x ≠ "__name__" := by decide) (hdb : (x == ("__debug__" : Str)) = false := by decide) (he : starEach (e :: es) X.env = (false, eval e X.env) :: starEach es X.env := by rfl) (hpl : (backTo pos (starEach es X.env)).any (·.1) = false := by rfl) :
    JE X R W (.Call (.Name x pp) (e :: es) [] pos) (mCallB p fa) := fun hK F => PE.imp (pe_callTy hc hg hm hv (ha hK F) hn hdb he hpl) (tCallB (pr hK))

/-! what is in it -/
theorem CRd.sq {K : PySem.W.Frag} {G : Gh} {H : Hp} {xs : List MV} {a : Addr} (h : CRd K G H (.lst xs) a) : ∃ vs, SqL K H a vs ∧ VRs K G H xs vs := h
/-- list or tuple -/
def seqOf (s : MS) : RV → Option (List MV)
  | .v (.tup xs) => some xs
  | r => match cont s r with | some (.lst xs) => some xs | _ => none
theorem seq_ok {F : FI} {σ : L2.St} {G : Gh} {H Hs : Hp} {s : MS} {r : RV} {v : V} {xs : List MV} (rel : Rel R F G s σ H) (rr : RR R σ Hs G H r v) (e : seqOf s r = some xs) : ∃ a vs, v = .ref a ∧ (SqL R.K H a vs ∨ SqT R.K H a vs) ∧ VRs R.K G H xs vs := by
  unfold seqOf at e
  split at e
  · cases e
    obtain ⟨a, vs, q, k, h⟩ := RR.tup rr
    exact ⟨a, vs, q, .inr k, h⟩
  · split at e
    · rename_i ys c
      cases e
      obtain ⟨a, q, cr⟩ := cont_ok rel rr c
      obtain ⟨vs, k, h⟩ := cr.sq
      exact ⟨a, vs, q, .inl k, h⟩
    · cases e
/-! len -/
def pLen (rs : List RV) (s : MS) : Out RV := match rs with
  | [.v (.str z)] => if z.length ≤ sizeLine then .ok (.v (.int z.length)) s else .bad
  | [r] => match seqOf s r with
    | some xs => .ok (.v (.int xs.length)) s
    | none => .bad
  | _ => .bad
theorem pr_len : PrimC R (fun xs H Q => ∃ x n, xs = [x] ∧ LenV R.K x H n ∧ Q (.int n) H) pLen := fun {F W σ G H G2 H2 s2 rs vs Q} w rr o => by
  unfold pLen at o
  split at o
  · obtain ⟨v, t, rfl, r1, rfl⟩ := rr
    cases RR.str r1
    split at o
    · rename_i z hz
      exact ⟨_, z.length, rfl, ⟨by simpa [PySem.Str.length] using hz, by simp [PySem.Str.length]⟩, finI w o⟩
    · exact o.elim
  · obtain ⟨v, t, rfl, r1, rfl⟩ := rr
    split at o
    · rename_i xs hx
      obtain ⟨a, ws, rfl, k, h⟩ := seq_ok w.rel r1 hx
      refine ⟨_, xs.length, rfl, ?_, finI w o⟩
      rcases k with k | k
      · exact .inl ⟨ws, k, h.length⟩
      · exact .inr ⟨ws, k, h.length⟩
    · exact o.elim
  · exact o.elim
/-! abs, max, min, int, ord -/
def pInt1 (C : Int → Prop) [∀ i, Decidable (C i)] (g : Int → MV) (rs : List RV) (s : MS) : Out RV := match rs with
  | [.v (.int i)] => if C i then .ok (.v (g i)) s else .bad
  | _ => .bad
def pInt2 (g : Int → Int → MV) (rs : List RV) (s : MS) : Out RV := match rs with
  | [.v (.int i), .v (.int j)] => .ok (.v (g i j)) s
  | _ => .bad
abbrev pAbs := pInt1 (fun _ => True) fun i => .int (if i < 0 then -i else i)
abbrev pMax := pInt2 fun i j => .int (if j > i then j else i)
abbrev pMin := pInt2 fun i j => .int (if j < i then j else i)
theorem pr_abs : PrimC R (fun xs H Q => ∃ i, xs = [.int i] ∧ Q (.int (if i < 0 then -i else i)) H) pAbs := fun {F W σ G H G2 H2 s2 rs vs Q} w rr o => by
  unfold pAbs pInt1 at o
  split at o
  · obtain ⟨v, t, rfl, r1, rfl⟩ := rr
    cases RR.int r1
    rw [if_pos trivial] at o
    exact ⟨_, rfl, finI w o⟩
  · exact o.elim
theorem pr_int2 {g : Int → Int → Int} : PrimC R (fun xs H Q => ∃ i j, xs = [.int i, .int j] ∧ Q (.int (g i j)) H) (pInt2 fun i j => .int (g i j)) := fun {F W σ G H G2 H2 s2 rs vs Q} w rr o => by
  unfold pInt2 at o
  split at o
  · obtain ⟨v, t, rfl, r1, v2, t2, rfl, r2, rfl⟩ := rr
    cases RR.int r1
    cases RR.int r2
    exact ⟨_, _, rfl, finI w o⟩
  · exact o.elim
def pInt (rs : List RV) (s : MS) : Out RV := match rs with
  | [.v (.int i)] => .ok (.v (.int i)) s
  | [.v (.bl b)] => .ok (.v (.int (if b then 1 else 0))) s
  | _ => .bad
theorem pr_int : PrimC R (fun xs H Q => (∃ i, xs = [.int i] ∧ Q (.int i) H) ∨ ∃ k, xs = [.bl k] ∧ Q (.int (if k then 1 else 0)) H) pInt := fun {F W σ G H G2 H2 s2 rs vs Q} w rr o => by
  unfold pInt at o
  split at o
  · obtain ⟨v, t, rfl, r1, rfl⟩ := rr
    cases RR.int r1
    exact .inl ⟨_, rfl, finI w o⟩
  · obtain ⟨v, t, rfl, r1, rfl⟩ := rr
    cases RR.bl r1
    exact .inr ⟨_, rfl, finI w o⟩
  · exact o.elim
def pOrd (rs : List RV) (s : MS) : Out RV := match rs with
  | [.v (.str [c])] => .ok (.v (.int c)) s
  | _ => .bad
theorem pr_ord : PrimC R (fun xs H Q => ∃ x, xs = [.str x] ∧ x.length = 1 ∧ Q (.int (x.cps.getD 0 0 : Nat)) H) pOrd := fun {F W σ G H G2 H2 s2 rs vs Q} w rr o => by
  unfold pOrd at o
  split at o
  · obtain ⟨v, t, rfl, r1, rfl⟩ := rr
    cases RR.str r1
    exact ⟨_, rfl, rfl, finI w o⟩
  · exact o.elim
/-! sum, all, any -/
def intsOf : List MV → Option (List Int)
  | [] => some []
  | .int i :: r => (intsOf r).map (i :: ·)
  | _ => none
theorem ints_ok {K : PySem.W.Frag} {G : Gh} {H : Hp} : ∀ {xs : List MV} {vs : List V} {ns : List Int}, VRs K G H xs vs → intsOf xs = some ns → vs = ns.map V.int
  | [], _, _, h, e => by unfold VRs at h; cases e; exact h
  | x :: xs, _, ns, h, e => by
    obtain ⟨v, r, rfl, p, q⟩ := h.inv
    cases x with
    | int i =>
      simp only [intsOf, Option.map_eq_some_iff] at e
      obtain ⟨ms, e1, rfl⟩ := e
      cases VR.int p
      rw [ints_ok q e1]; rfl
    | _ => cases e
def blsOf : List MV → Option (List Bool)
  | [] => some []
  | .bl i :: r => (blsOf r).map (i :: ·)
  | _ => none
theorem bls_ok {K : PySem.W.Frag} {G : Gh} {H : Hp} : ∀ {xs : List MV} {vs : List V} {ns : List Bool}, VRs K G H xs vs → blsOf xs = some ns → vs = ns.map V.bl
  | [], _, _, h, e => by unfold VRs at h; cases e; exact h
  | x :: xs, _, ns, h, e => by
    obtain ⟨v, r, rfl, p, q⟩ := h.inv
    cases x with
    | bl i =>
      simp only [blsOf, Option.map_eq_some_iff] at e
      obtain ⟨ms, e1, rfl⟩ := e
      cases VR.bl p
      rw [bls_ok q e1]; rfl
    | _ => cases e
def strsOf : List MV → Option (List (List Nat))
  | [] => some []
  | .str i :: r => (strsOf r).map (i :: ·)
  | _ => none
theorem strs_ok {K : PySem.W.Frag} {G : Gh} {H : Hp} : ∀ {xs : List MV} {vs : List V} {ns : List (List Nat)}, VRs K G H xs vs → strsOf xs = some ns → vs = (ns.map fun s => (⟨s.toArray⟩ : Str)).map V.str
  | [], _, _, h, e => by unfold VRs at h; cases e; exact h
  | x :: xs, _, ns, h, e => by
    obtain ⟨v, r, rfl, p, q⟩ := h.inv
    cases x with
    | str i =>
      simp only [strsOf, Option.map_eq_some_iff] at e
      obtain ⟨ms, e1, rfl⟩ := e
      cases VR.str p
      rw [strs_ok q e1]; rfl
    | _ => cases e
def lstOf (s : MS) (r : RV) : Option (List MV) := match cont s r with | some (.lst xs) => some xs | _ => none
theorem lst_ok {F : FI} {σ : L2.St} {G : Gh} {H Hs : Hp} {s : MS} {r : RV} {v : V} {xs : List MV} (rel : Rel R F G s σ H) (rr : RR R σ Hs G H r v) (e : lstOf s r = some xs) : ∃ a vs, v = .ref a ∧ SqL R.K H a vs ∧ VRs R.K G H xs vs := by
  unfold lstOf at e
  split at e
  · rename_i ys c
    cases e
    obtain ⟨a, q, cr⟩ := cont_ok rel rr c
    obtain ⟨vs, k, h⟩ := cr.sq
    exact ⟨a, vs, q, k, h⟩
  · cases e
def pSum (rs : List RV) (s : MS) : Out RV := match rs with
  | [r] => match (lstOf s r).bind intsOf with | some ns => .ok (.v (.int ns.sum)) s | none => .bad
  | _ => .bad
theorem pr_sum : PrimC R (rSum R.K) pSum := fun {F W σ G H G2 H2 s2 rs vs Q} w rr o => by
  unfold pSum at o
  split at o
  · obtain ⟨v, t, rfl, r1, rfl⟩ := rr
    split at o
    · rename_i ns e
      obtain ⟨xs, e1, e2⟩ := Option.bind_eq_some_iff.mp e
      obtain ⟨a, ws, rfl, k, h⟩ := lst_ok w.rel r1 e1
      rw [ints_ok h e2] at k
      exact ⟨a, ns, rfl, k, finI w o⟩
    · exact o.elim
  · exact o.elim
def pAll (f : List Bool → Bool) (rs : List RV) (s : MS) : Out RV := match rs with
  | [r] => match (lstOf s r).bind blsOf with | some ns => .ok (.v (.bl (f ns))) s | none => .bad
  | _ => .bad
theorem pr_all : PrimC R (rAll R.K) (pAll (·.all id)) := fun {F W σ G H G2 H2 s2 rs vs Q} w rr o => by
  unfold pAll at o
  split at o
  · obtain ⟨v, t, rfl, r1, rfl⟩ := rr
    split at o
    · rename_i ns e
      obtain ⟨xs, e1, e2⟩ := Option.bind_eq_some_iff.mp e
      obtain ⟨a, ws, rfl, k, h⟩ := lst_ok w.rel r1 e1
      rw [bls_ok h e2] at k
      exact ⟨a, ns, rfl, k, finB w o⟩
    · exact o.elim
  · exact o.elim
theorem pr_any : PrimC R (rAny R.K) (pAll (·.any id)) := fun {F W σ G H G2 H2 s2 rs vs Q} w rr o => by
  unfold pAll at o
  split at o
  · obtain ⟨v, t, rfl, r1, rfl⟩ := rr
    split at o
    · rename_i ns e
      obtain ⟨xs, e1, e2⟩ := Option.bind_eq_some_iff.mp e
      obtain ⟨a, ws, rfl, k, h⟩ := lst_ok w.rel r1 e1
      rw [bls_ok h e2] at k
      exact ⟨a, ns, rfl, k, finB w o⟩
    · exact o.elim
  · exact o.elim
/-! a[i] -/
def opIx (r1 r2 : RV) (s : MS) : Out RV := match r2 with
  | .v (.int i) => match r1 with
    | .v (.str z) => if z.length ≤ sizeLine then (match atI z i with | some c => .ok (.v (.str [c])) s | none => .bad) else .bad
    | r1 => match seqOf s r1 with
      | some xs => match atI xs i with | some x => .ok (.v x) s | none => .bad
      | none => .bad
  | _ => .bad
theorem atI_rel {K : PySem.W.Frag} {G : Gh} {H : Hp} {xs : List MV} {vs : List V} {i : Int} {x : MV} (h : VRs K G H xs vs) (e : atI xs i = some x) : ∃ v, atI vs i = some v ∧ VR K G H x v := by
  unfold atI at *
  rw [← h.length]
  obtain ⟨j, e1, e2⟩ := Option.bind_eq_some_iff.mp e
  obtain ⟨v, e3, r⟩ := h.get e2
  exact ⟨v, by rw [e1]; exact e3, r⟩
theorem pr_ix : PrimR R (fun x y H Q => rIxL R.K x y H Q ∨ (rIxT R.K x y H Q ∨ rIxS x y H Q)) opIx := fun {F W σ G H G2 H2 s2 r1 r2 x y Q} w h1 h2 o => by
  unfold opIx at o
  split at o
  · cases RR.int h2
    split at o
    · cases RR.str h1
      split at o
      · rename_i z hz
        split at o
        · rename_i c e
          exact .inr (.inr ⟨_, _, c, rfl, rfl, by simpa [PySem.Str.length] using hz, by simpa using e, finS w o rfl⟩)
        · exact o.elim
      · exact o.elim
    · split at o
      · rename_i xs hx
        split at o
        · rename_i u e
          obtain ⟨a, vs, rfl, k, h⟩ := seq_ok w.rel h1 hx
          obtain ⟨v, e3, r⟩ := atI_rel h e
          rcases k with k | k
          · exact .inl ⟨a, vs, _, v, rfl, rfl, k, e3, finV w o r⟩
          · exact .inr (.inl ⟨a, vs, _, v, rfl, rfl, k, e3, finV w o r⟩)
        · exact o.elim
      · exact o.elim
  · exact o.elim
theorem je_ix {a b : Expr} {fa fb : ME} (ha : JE X R W a fa) (hb : JE X R W b fb) (hs : PlainIx b := by intro _ _; rfl) : JE X R W (.Subscript a b pos) (mBin opIx fa fb) := fun hK F =>
  PE.imp (pe_ix ix_seq (ha hK F) (hb hK F) hs) fun σ H Q h => by
    have e : rIx X.K = fun x y H Q => rIxL R.K x y H Q ∨ (rIxT R.K x y H Q ∨ rIxS x y H Q) := by rw [hK]; rfl
    rw [e]
    exact tBin pr_ix σ H Q h
end
end Mi
set_option Elab.async false
set_option linter.all false
set_option maxRecDepth 100000
set_option maxHeartbeats 4000000
namespace Mi
open PySem PySem.Spec PyProof.Rows L2
/-! functions -/
def FRR (R : RC) (Hs : Hp) (G : Gh) (H : Hp) : FR → V → Prop
  | .v x, v => VR R.K G H x v
  | .own c, v => ∃ a, v = .ref a ∧ Hs a = none ∧ G a = none ∧ CR R.K G H c a
def OutF (R : RC) (G : Gh) (H : Hp) (hp : List MO) (o : FOut) (Q : VK) (E : XK) : Prop := match o with
  | .ok r hp' => ∀ G' H' v, HRel R G' hp' H' → Evo (· < hp.length) G H G' H' → hp.length ≤ hp'.length → FRR R H G' H' r v → Q v H'
  | .exc c xs hp' => ∀ G' H' cls d, HRel R G' hp' H' → Evo (· < hp.length) G H G' H' → hp.length ≤ hp'.length → ExR R G' H' c xs cls d → E cls d H'
  | .bad => False
/-- the promise of a def that does as the mini function -/
def spF (R : RC) (n : Nat) (run : Fn) : Sp := fun vs H Q E => ∃ G hp args, HRel R G hp H ∧ VRs R.K G H args vs ∧ args.length = n ∧ OutF R G H hp (run args hp) Q E
theorem spF.len {R : RC} {n : Nat} {run : Fn} {vs : List V} {H : Hp} {Q : VK} {E : XK} (h : spF R n run vs H Q E) : vs.length = n := by
  obtain ⟨G, hp, args, _, r, l, _⟩ := h
  rw [← r.length]; exact l
/-! roles at a call -/
def isLoc : Option Role → Bool
  | some (.loc _) => true
  | _ => false
def noLoc (G : Gh) : Gh := fun a => if isLoc (G a) = true then none else G a
theorem noLoc_of {G : Gh} {a : Addr} {r : Option Role} (h : G a = r) (n : isLoc r = false) : noLoc G a = r := by
  unfold noLoc; rw [h, if_neg (by rw [n]; simp)]
theorem of_noLoc {G : Gh} {a : Addr} {r : Role} (h : noLoc G a = some r) : G a = some r := by
  unfold noLoc at h
  split at h
  · cases h
  · exact h
theorem noLoc_none {G : Gh} {a : Addr} (h : noLoc G a = none) : G a = none ∨ ∃ i, G a = some (.loc i) := by
  unfold noLoc at h
  split at h
  · rename_i q
    cases e : G a with
    | none => exact .inl rfl
    | some r =>
      rw [e] at q
      cases r with
      | loc i => exact .inr ⟨i, rfl⟩
      | frz => cases q
      | obj n => cases q
      | fld n f => cases q
  · exact .inl h
theorem Mo.noLoc {G : Gh} {H : Hp} : Mo G H (noLoc G) H := ⟨fun a g => ⟨noLoc_of g rfl, rfl⟩, fun a n g => noLoc_of g rfl⟩
theorem HRel.noLoc {R : RC} {G : Gh} {hp : List MO} {H : Hp} (h : HRel R G hp H) : HRel R (noLoc G) hp H :=
  h.keep Mo.noLoc (fun _ _ _ => rfl) (fun b n f g => ⟨noLoc_of g rfl, rfl⟩) (fun b n g => of_noLoc g) (fun b n f g => of_noLoc g) fun b r g => h.live b r (of_noLoc g)
/-- the caller's roles again, behind the callee's G' -/
def backG (G G' : Gh) : Gh := fun a => if isLoc (G a) = true then G a else noLoc G' a
section
variable {R : RC} {F : FI} {σ : L2.St} {G G' : Gh} {H H' : Hp} {s : MS} {hp' : List MO}
theorem backG_loc {a : Addr} {i : Nat} (h : G a = some (.loc i)) : backG G G' a = some (.loc i) := by unfold backG; rw [h]; rfl
theorem backG_of {a : Addr} {r : Option Role} (h : isLoc (G a) = false) (g : noLoc G' a = r) : backG G G' a = r := by unfold backG; rw [if_neg (by rw [h]; simp)]; exact g
theorem isLoc_none {a : Addr} (h : ∀ i, G a ≠ some (.loc i)) : isLoc (G a) = false := by
  cases e : G a with
  | none => rfl
  | some r => cases r <;> first | rfl | exact absurd e (h _)
/-- behind a call -/
theorem call_back (rel : Rel R F G s σ H) (h : HRel R G' hp' H') (e : Evo (· < s.hp.length) (noLoc G) H G' H') (le : s.hp.length ≤ hp'.length) :
    Rel R F (backG G G') { s with hp := hp' } σ H' ∧ Evo EvT G H (backG G G') H' ∧ Mo G' H' (backG G G') H' ∧ (∀ a, H a = none → G' a = none → backG G G' a = none) := by
  -- the caller's own places stay as they were
  have own : ∀ a i, G a = some (.loc i) → H' a = H a ∧ G' a = none := fun a i g => by
    obtain ⟨o, ho⟩ := rel.hp.live a _ g
    have n : noLoc G a = none := by unfold noLoc; rw [g]; rfl
    obtain ⟨h1, g1⟩ := e.un a o ho n
    exact ⟨h1.trans ho.symm, g1⟩
  have nl : ∀ a r, G' a = some r → isLoc (G a) = false := fun a r g => isLoc_none fun i q => by rw [(own a i q).2] at g; cases g
  have m : Mo G' H' (backG G G') H' := ⟨fun a g => ⟨backG_of (nl a _ g) (noLoc_of g rfl), rfl⟩, fun a n g => backG_of (nl a _ g) (noLoc_of g rfl)⟩
  have toBack : ∀ a r, backG G G' a = some r → (∃ i, r = .loc i ∧ G a = some (.loc i)) ∨ G' a = some r := fun a r g => by
    unfold backG at g
    split at g
    · rename_i q
      rw [g] at q
      cases r with
      | loc i => exact .inl ⟨i, rfl, g⟩
      | frz => cases q
      | obj n => cases q
      | fld n f => cases q
    · exact .inr (of_noLoc g)
  have hr : HRel R (backG G G') hp' H' := by
    refine h.keep m (fun _ _ _ => rfl) (fun b n f g => ⟨backG_of (nl b _ g) (noLoc_of g rfl), rfl⟩) (fun b n g => ?_) (fun b n f g => ?_) fun b r g => ?_
    · rcases toBack b _ g with ⟨i, q, _⟩ | q
      · cases q
      · exact q
    · rcases toBack b _ g with ⟨i, q, _⟩ | q
      · cases q
      · exact q
    · rcases toBack b _ g with ⟨i, _, q⟩ | q
      · obtain ⟨o, ho⟩ := rel.hp.live b _ q
        exact ⟨o, (own b i q).1.trans ho⟩
      · exact h.live b r q
  have flt : ∀ a n f, G a = some (.fld n f) → n < s.hp.length := fun a n f g => by
    obtain ⟨c, cl, fs, dx, hfs, nm, gc, _⟩ := rel.hp.fldOk a n f g
    exact rel.hp.lt c n gc
  have ev : Evo EvT G H (backG G G') H' := by
    refine ⟨fun a o ho g => ?_, fun a g => ?_, fun a n g => ?_, fun a n f _ g => ?_, e.tk⟩
    · obtain ⟨h1, g1⟩ := e.un a o ho (noLoc_of g rfl)
      exact ⟨h1, backG_of (by rw [g]; rfl) (by unfold Mi.noLoc; rw [g1]; rfl)⟩
    · obtain ⟨g1, h1⟩ := e.fz a (noLoc_of g rfl)
      exact ⟨backG_of (by rw [g]; rfl) (noLoc_of g1 rfl), h1⟩
    · exact backG_of (by rw [g]; rfl) (noLoc_of (e.ob a n (noLoc_of g rfl)) rfl)
    · exact backG_of (by rw [g]; rfl) (noLoc_of (e.fl a n f (flt a n f g) (noLoc_of g rfl)) rfl)
  refine ⟨⟨hr, rel.len, env_keep ev.mo rel.env fun a i g => ⟨backG_loc g, (own a i g).1⟩, rel.since.trans (ev.weak fun _ _ => trivial), rel.base, Nat.le_trans rel.le le, rel.ent⟩, ev, m, fun a hn g => ?_⟩
  refine backG_of (isLoc_none fun i q => ?_) (by unfold Mi.noLoc; rw [g]; rfl)
  obtain ⟨o, ho⟩ := rel.hp.live a _ q
  rw [hn] at ho; cases ho
end
/-! a call in an expression -/
def frRV : FR → RV
  | .v x => .v x
  | .own c => .own c
def mRun (run : Fn) (xs : List MV) (s : MS) : Out RV := match run xs s.hp with
  | .ok r hp => .ok (frRV r) { s with hp := hp }
  | .exc c ys hp => .exc c ys { s with hp := hp }
  | .bad => .bad
theorem ExR.mono {R : RC} {G G' : Gh} {H H' : Hp} {c : Nat} {xs : List MV} {cls : Value} {d : Option Addr} (m : Mo G H G' H') (h : ExR R G H c xs cls d) : ExR R G' H' c xs cls d := by
  obtain ⟨a, b, kd, k⟩ := h
  refine ⟨a, b, kd, fun ne => ?_⟩
  obtain ⟨dd, fs, e, hd, g, q⟩ := k ne
  refine ⟨dd, fs, e, (m.fz dd g).2.trans hd, (m.fz dd g).1, fun i nm x e1 e2 => ?_⟩
  obtain ⟨v, l, r⟩ := q i nm x e1 e2
  exact ⟨v, l, VR.mono m _ _ r⟩
/-- the callee's promise, from the caller's state -/
theorem run_sp {R : RC} {F : FI} {W : WX} {σ : L2.St} {G G1 : Gh} {H H1 : Hp} {s1 : MS} {n : Nat} {run : Fn} {xs : List MV} {vs : List V} {Q : VK} (w : Way R F σ G H G1 H1 s1) (r : VRs R.K G1 H1 xs vs) (hl : xs.length = n)
    (o : OutX rlE R F W σ G H (mRun run xs s1) Q) : spF R n run vs H1 Q (WE W σ) := by
  refine ⟨noLoc G1, s1.hp, xs, w.rel.hp.noLoc, VRs.mono Mo.noLoc _ _ r, hl, ?_⟩
  unfold mRun at o
  cases q : run xs s1.hp with
  | ok fr hp =>
    rw [q] at o
    intro G' H' v h e le k
    obtain ⟨rel, ev, m, nn⟩ := call_back w.rel h e le
    refine o _ _ _ rel (w.evo.trans ev) ?_
    cases fr with
    | v x => exact VR.mono m x v k
    | own c =>
      obtain ⟨a, q1, hn, g, cr⟩ := k
      exact ⟨a, q1, fresh_back w.evo hn, nn a hn g, cr.mono m rfl⟩
  | exc c ys hp =>
    rw [q] at o
    intro G' H' cls d h e le k
    obtain ⟨rel, ev, m, nn⟩ := call_back w.rel h e le
    exact o _ _ _ _ rel (w.evo.trans ev) (k.mono m)
  | bad => rw [q] at o; exact o.elim
def mCall (run : Fn) (n : Nat) (fa : MS → Out (List MV)) : ME := fun s => (fa s).bind fun xs s1 => if xs.length = n then mRun run xs s1 else .bad
theorem tCallM {R : RC} {W : WX} {F : FI} {run : Fn} {n : Nat} {fa : MS → Out (List MV)} : ∀ σ H Q, tE R F W (mCall run n fa) σ H Q → tCallSD (spF R n run) [] (WE W) (tVs R F W fa) σ H Q := fun σ H Q h =>
  (first (M := rlS) h).mono fun vs H1 ⟨G, xs, s1, G1, w, rr, o⟩ => by
    split at o
    · rename_i hl
      rw [List.append_nil]
      exact run_sp w rr hl o
    · exact o.elim
section
variable {X : Cx} {R : RC} {W : WX} {pos pp apos : Pos} {x : Str} {f : Addr} {fd : FuncData} {ps : List Str} {n k : Nat} {run : Fn}
theorem je_call {e : Expr} {es : List Expr} {fa : MS → Out (List MV)} (Fo : FnOk X.prog X.w X.K X.mg X.base (L2.CX X.prog X.w) k f fd ps (spF R n run)) (tk : Takes X W) (hr : Room k X.A) (hm : X.mg x = some (.ref f)) (hk : PySem.W.keepIn X.K (.ref f) = true) (hb : Binds X.K fd ps [])
    (ha : JAs X R W (e :: es) fa) (hg : Gl X x := by rfl) (hdb : (x == ("__debug__" : Str)) = false := by decide) (he : starEach (e :: es) X.env = (false, eval e X.env) :: starEach es X.env := by rfl) (hpl : (backTo pos (starEach es X.env)).any (·.1) = false := by rfl) :
    JE X R W (.Call (.Name x pp) (e :: es) [] pos) (mCall run n fa) := fun hK F => by
  refine ⟨fun pins s σ H Q I h => ?_⟩
  refine wpAny_Call_Name_kw (ld_glob I hg hm ?_ hdb)
  refine PySem.W.callWith_K (h₀ := X.base) I.ok.mod.kin hk (thn ((ha hK F).run pos pins s σ H _ I (first (M := rlS) h)) fun us s1 ⟨vs, H1, I1, r, G, xs, m1, G1, w, rr, o⟩ => ⟨I1.kIn, ?_⟩) he hpl
  split at o
  · rename_i hl
    exact run_all (E := WE W) Fo hr hb (passAt tk σ) I1 r (run_sp w rr hl o)
  · exact o.elim
end
end Mi
set_option Elab.async false
set_option linter.all false
set_option maxRecDepth 100000
set_option maxHeartbeats 4000000
namespace Mi
open PySem PySem.Spec PyProof.Rows L2
inductive Fl where
  | next | ret (r : FR)
abbrev MSt := MS → Out Fl
section
variable (R : RC) (F : FI) (W : WX)
def OutS (G : Gh) (H : Hp) (o : Out Fl) (D : Ends) : Prop := match o with
  | .ok .next s' => ∀ G' σ' H', Rel R F G' s' σ' H' → Evo (· < F.base) G H G' H' → D.nx σ' H'
  | .ok (.ret r) s' => ∀ G' σ' H' v, Rel R F G' s' σ' H' → FRR R F.H0 G' H' r v → D.rt v H'
  | .exc c xs s' => ∀ G' σ' H' cls d, Rel R F G' s' σ' H' → Evo (· < F.base) G H G' H' → ExR R G' H' c xs cls d → W cls d σ' H'
  | .bad => False
def tS (f : MSt) : TS := fun D σ H => ∃ G s, Rel R F G s σ H ∧ OutS R F W G H (f s) D
end
def JS (X : Cx) (R : RC) (W : WX) (st : Stmt) (f : MSt) : Prop := R.K = X.K → ∀ F, PS X st (tS R F W f)
def JB (X : Cx) (R : RC) (W : WX) (st : List Stmt) (f : MSt) : Prop := R.K = X.K → ∀ F, PSs X st (tS R F W f)
theorem Mo.trans {G G1 G2 : Gh} {H H1 H2 : Hp} (a : Mo G H G1 H1) (b : Mo G1 H1 G2 H2) : Mo G H G2 H2 :=
  ⟨fun c g => let ⟨g1, h1⟩ := a.fz c g; let ⟨g2, h2⟩ := b.fz c g1; ⟨g2, h2.trans h1⟩, fun c n g => b.ob c n (a.ob c n g)⟩
theorem Mo.refl {G : Gh} {H : Hp} : Mo G H G H := ⟨fun _ g => ⟨g, rfl⟩, fun _ _ g => g⟩
section
variable {X : Cx} {R : RC} {W : WX} {F : FI} {σ : L2.St} {G G1 : Gh} {H H1 : Hp} {s s1 : MS} {pos : Pos}
theorem OutS.rebase {o : Out Fl} {D : Ends} (h : OutS R F W G H o D) (m : Evo (· < F.base) G H G1 H1) : OutS R F W G1 H1 o D := by
  cases o with
  | ok fl s' =>
    cases fl with
    | next => exact fun G' σ' H' rel mo => h G' σ' H' rel (m.trans mo)
    | ret r => exact h
  | exc c xs s' => exact fun G' σ' H' cls d rel ev x => h G' σ' H' cls d rel (m.trans ev) x
  | bad => exact h
theorem Way.evS (w : Way R F σ G H G1 H1 s1) : Evo (· < F.base) G H G1 H1 := w.evo.weak fun _ _ => trivial
/-- a statement's expression -/
theorem firstS {γ δ : Type} {M : RL γ δ} {fb : MS → Out γ} {k : γ → MS → Out Fl} {D : Ends} (h : tS R F W (fun s => (fb s).bind k) D σ H) :
    tX M R F W fb σ H (fun y H1 => ∃ G r s1 G1, Way R F σ G H G1 H1 s1 ∧ M.rel R σ H G1 H1 r y ∧ OutS R F W G H (k r s1) D) := by
  obtain ⟨G, s, rel, h⟩ := h
  refine ⟨G, s, rel, ?_⟩
  have h : OutS R F W G H ((fb s).bind k) D := h
  cases q : fb s with
  | ok r s2 =>
    rw [q] at h
    exact fun G' H' v rel' ev rr => ⟨G, r, s2, G', ⟨rel', ev, rel.since⟩, rr, h⟩
  | exc c xs s2 => rw [q] at h; exact fun G' H' cls d rel' ev e => h G' σ H' cls d rel' (ev.weak fun _ _ => trivial) e
  | bad => rw [q] at h; exact h
theorem tS_of {f : MSt} {D : Ends} (rel : Rel R F G s σ H) (o : OutS R F W G H (f s) D) : tS R F W f D σ H := ⟨G, s, rel, o⟩
/-! blocks -/
def mNext : MSt := fun s => .ok .next s
def mSeq (f g : MSt) : MSt := fun s => (f s).bind fun fl s1 => match fl with
  | .next => g s1
  | .ret r => .ok (.ret r) s1
theorem jb_nil : JB X R W [] mNext := fun _ F => PSs.imp pss_nil fun D σ H ⟨G, s, rel, h⟩ => h G σ H rel .refl
theorem jb_cons {st : Stmt} {rest : List Stmt} {f g : MSt} (h1 : JS X R W st f) (h2 : JB X R W rest g) : JB X R W (st :: rest) (mSeq f g) := fun hK F => PSs.imp (pss_cons (h1 hK F) (h2 hK F)) fun D σ H ⟨G, s, rel, h⟩ => by
  refine ⟨G, s, rel, ?_⟩
  unfold mSeq at h
  cases q : f s with
  | ok fl s2 =>
    rw [q] at h
    cases fl with
    | next => exact fun G' σ' H' rel' mo => ⟨G', s2, rel', OutS.rebase h mo⟩
    | ret r => exact h
  | exc c xs s2 => rw [q] at h; exact h
  | bad => rw [q] at h; exact h
theorem jb_one {st : Stmt} {f : MSt} (h1 : JS X R W st f) : JB X R W [st] f := fun hK F => PSs.imp (pss_one (h1 hK F)) fun D σ H h => h
theorem js_pass : JS X R W (.Pass pos) mNext := fun _ F => PS.imp ps_pass fun D σ H ⟨G, s, rel, h⟩ => h G σ H rel .refl
/-! expression statements, return -/
def mExpr (f : ME) : MSt := fun s => (f s).bind fun _ s1 => .ok .next s1
theorem js_expr {e : Expr} {f : ME} (he : JE X R W e f) (hs : swapsWith e none pos.line X.env = pure false := by rfl) : JS X R W (.Expr e pos) (mExpr f) := fun hK F => PS.imp (ps_expr (he hK F) hs) fun D σ H h =>
  (firstS (M := rlE) h).mono fun y H1 ⟨G, r, s1, G1, w, rr, o⟩ => o G1 σ H1 w.rel w.evS
theorem Rel.locNew {a : Addr} {i : Nat} (h : Rel R F G s σ H) (g : G a = some (.loc i)) : F.H0 a = none := by
  cases q : F.H0 a with
  | none => rfl
  | some o =>
    exfalso
    cases q2 : F.G0 a with
    | none => have := (h.since.un a o q q2).2; rw [g] at this; cases this
    | some r =>
      rcases h.ent a r q2 with rfl | ⟨n, rfl⟩ | ⟨n, f, hn, rfl⟩
      · have := (h.since.fz a q2).1; rw [g] at this; cases this
      · have := h.since.ob a n q2; rw [g] at this; cases this
      · have := h.since.fl a n f hn q2; rw [g] at this; cases this
def giveR (r : RV) (s : MS) : Out FR := match r with
  | .v x => .ok (.v x) s
  | .own c => .ok (.own c) s
  | .loc i => match s.env[i]? with
    | some (some (.own c)) => .ok (.own c) { s with env := s.env.set i none }
    | _ => .bad
  | .fld _ _ => .bad
def mRet (f : ME) : MSt := fun s => (f s).bind fun r s1 => (giveR r s1).bind fun fr s2 => .ok (.ret fr) s2
theorem js_ret {e : Expr} {f : ME} (he : JE X R W e f) : JS X R W (.Return (some e) pos) (mRet f) := fun hK F => PS.imp (ps_ret (he hK F)) fun D σ H h => by
  refine (firstS (M := rlE) h).mono fun y H1 ⟨G, r, s1, G1, w, rr, o⟩ => ?_
  cases r with
  | v x => exact o G1 σ H1 y w.rel rr
  | own c =>
    obtain ⟨a, q, hn, g, cr⟩ := rr
    exact o G1 σ H1 y w.rel ⟨a, q, fresh_back w.st hn, g, cr⟩
  | loc i =>
    simp only [giveR] at o
    split at o
    · rename_i c hc
      obtain ⟨u, q, a, ev, g, cr⟩ := w.rel.env i _ hc
      have rr' : σ[i]? = some (some y) := rr
      rw [rr'] at q; cases q
      subst ev
      exact o (setG G1 a none) σ H1 _ (w.rel.rerole g (.inr rfl) rr' (sv := none) fun x e => by cases e) ⟨a, rfl, w.rel.locNew g, setG_same, cr.mono (Mo.rerole g) rfl⟩
    · exact o.elim
  | fld n f => exact o.elim
def mRetN : MSt := fun s => .ok (.ret (.v .non)) s
theorem js_retN : JS X R W (.Return none pos) mRetN := fun _ F => PS.imp ps_retN fun D σ H ⟨G, s, rel, h⟩ => h G σ H .non rel (show VR R.K G H .non .non from VR.mkNon)
/-! if -/
def mIf (ft : MS → Out Bool) (fa fb : MSt) : MSt := fun s => (ft s).bind fun b s1 => if b = true then fa s1 else fb s1
theorem js_if {c : Expr} {a b : List Stmt} {ft : MS → Out Bool} {fa fb : MSt} (hc : JT X R W c ft) (ha : JB X R W a fa) (hb : JB X R W b fb) : JS X R W (.If c a b pos) (mIf ft fa fb) := fun hK F => PS.imp (ps_if (hc hK F) (ha hK F) (hb hK F)) fun D σ H h => by
  refine (firstS (M := rlB) h).mono fun y H1 ⟨G, r, s1, G1, w, rr, o⟩ => ?_
  cases rr
  cases y with
  | true => exact ⟨G1, s1, w.rel, OutS.rebase o w.evS⟩
  | false => exact ⟨G1, s1, w.rel, OutS.rebase o w.evS⟩
/-! a name is stored -/
theorem Rel.setSlot {i : Nat} {sv : Option SV} {v : V} (h : Rel R F G s σ H) (hi : i < s.env.length) (new : ∀ x, sv = some x → LSlot R G H i x v) : Rel R F G { s with env := s.env.set i sv } (σ.set i (some v)) H := by
  refine ⟨h.hp, by simpa using h.len, fun j x e => ?_, h.since, h.base, h.le, h.ent⟩
  have hs : i < σ.length := by rw [← h.len]; exact hi
  by_cases z : j = i
  · subst z
    simp only [List.getElem?_set_self hi] at e
    exact ⟨v, by rw [List.getElem?_set_self hs], new x (Option.some.inj e)⟩
  · simp only [List.getElem?_set_ne (Ne.symm z)] at e
    obtain ⟨w, q, k⟩ := h.env j x e
    exact ⟨w, by rw [List.getElem?_set_ne (Ne.symm z)]; exact q, k⟩
def putSlot (i : Nat) (r : RV) (s : MS) : Out Fl := match r with
  | .own c => if i < s.env.length then .ok .next { s with env := s.env.set i (some (.own c)) } else .bad
  | r => (share r s).bind fun x s2 => if i < s2.env.length then .ok .next { s2 with env := s2.env.set i (some (.v x)) } else .bad
def mSet (i : Nat) (f : ME) : MSt := fun s => (f s).bind fun r s1 => putSlot i r s1
theorem putSlot_ok {i : Nat} {r : RV} {v : V} {D : Ends} (w : Way R F σ G H G1 H1 s1) (rr : RR R σ H G1 H1 r v) (o : OutS R F W G H (putSlot i r s1) D) : D.nx (σ.set i (some v)) H1 := by
  have shared : OutS R F W G H ((share r s1).bind fun x s2 => if i < s2.env.length then .ok .next { s2 with env := s2.env.set i (some (.v x)) } else .bad) D → D.nx (σ.set i (some v)) H1 := fun o => by
    cases q : share r s1 with
    | ok x s2 =>
      rw [q] at o
      obtain ⟨G2, w2, m, vr⟩ := share_ok w rr q
      simp only [Out.bind_ok] at o
      split at o
      · rename_i hi
        exact o G2 _ H1 (w2.rel.setSlot hi fun x e => by cases e; exact vr) w2.evS
      · exact o.elim
    | exc c xs s2 => exact absurd q share_noexc
    | bad => rw [q] at o; exact o.elim
  cases r with
  | own c =>
    simp only [putSlot] at o
    split at o
    · rename_i hi
      obtain ⟨a, rfl, hn, g, cr⟩ := rr
      have h0 := fresh_back w.st hn
      have m : Mo G1 H1 (setG G1 a (some (.loc i))) H1 := Mo.setr g
      exact o _ _ _ ((w.rel.setr g cr.there h0 (.inr ⟨i, rfl⟩)).setSlot hi fun x e => by cases e; exact ⟨a, rfl, setG_same, cr.mono m rfl⟩) (w.evS.setr hn g)
    · exact o.elim
  | v x => exact shared o
  | loc j => exact shared o
  | fld n f => exact shared o
theorem js_set {i : Nat} {x : Str} {e : Expr} {f : ME} {pos' : Pos} (hN : X.N.Nodup) (he : JE X R W e f) (hi : X.N[i]? = some x := by rfl) (hx : Loc X.env.scope x := by first | exact Or.inl rfl | exact Or.inr rfl) (hs : swapsWith e (some (.Name x pos')) pos.line X.env = pure false := by rfl)
    (hf : X.fn x = true ∨ X.env.scope.names.lookup x = some .local := by first | exact .inl rfl | exact .inr rfl) : JS X R W (.Assign [.Name x pos'] e pos) (mSet i f) := fun hK F => PS.imp (ps_set hN hi hx (he hK F) hs hf) fun D σ H h =>
  (firstS (M := rlE) h).mono fun y H1 ⟨G, r, s1, G1, w, rr, o⟩ => putSlot_ok w rr o
end
end Mi
set_option Elab.async false
set_option linter.all false
set_option maxRecDepth 100000
set_option maxHeartbeats 4000000
namespace Mi
open PySem PySem.Spec PyProof.Rows L2
section
variable {X : Cx} {R : RC} {W : WX} {F : FI} {σ : L2.St} {G G1 : Gh} {H H1 : Hp} {s s1 : MS} {pos : Pos} {a b c e : Expr} {fa fb fc : ME} {rest : List Expr}
/-! truth -/
def truth (s : MS) (r : RV) : Option Bool := match r with
  | .v .non => some false
  | .v (.bl b) => some b
  | .v (.int i) => some (i != 0)
  | .v (.str z) => if z.length ≤ sizeLine then some (!z.isEmpty) else none
  | r => match seqOf s r with
    | some xs => some (!xs.isEmpty)
    | none => none
theorem isEmpty_len {α β : Type} {a : List α} {b : List β} (h : a.length = b.length) : a.isEmpty = b.isEmpty := by
  cases a <;> cases b <;> simp_all
theorem truth_ok {Hs : Hp} {r : RV} {v : V} {k : Bool} (rel : Rel R F G s σ H) (rr : RR R σ Hs G H r v) (q : truth s r = some k) : TruV R.K v H k := by
  unfold truth at q
  split at q
  · cases RR.non rr; cases q; rfl
  · cases RR.bl rr; cases q; rfl
  · cases RR.int rr; cases q; rfl
  · cases RR.str rr
    split at q
    · rename_i z hz
      cases q
      refine ⟨by simpa [PySem.Str.length] using hz, ?_⟩
      cases z <;> simp [PySem.Str.length] <;> omega
    · cases q
  · split at q
    · rename_i xs hx
      cases q
      obtain ⟨a, ws, rfl, k, h⟩ := seq_ok rel rr hx
      rcases k with k | k
      · exact .inl ⟨ws, k, by rw [isEmpty_len h.length]⟩
      · exact .inr (.inl ⟨ws, k, by rw [isEmpty_len h.length]⟩)
    · cases q
def mTest (f : ME) : MS → Out Bool := fun s => (f s).bind fun r s1 => match truth s1 r with | some b => .ok b s1 | none => .bad
/-- of a bool alone -/
def mTestB (f : ME) : MS → Out Bool := fun s => (f s).bind fun r s1 => match r with | .v (.bl b) => .ok b s1 | _ => .bad
theorem jt_plain (h : JE X R W e fa) (he : ∀ whole, isTrue e X.env whole = (do let v ← whole; standAt e.pos; holding [v] (truthy v)) := by intro _; rfl) : JT X R W e (mTest fa) := fun hK F => PT.imp (pt_truth (h hK F) he) fun σ H Q q => by
  refine (first (M := rlE) q).mono fun y H1 ⟨G, r, s1, G1, w, rr, o⟩ => ?_
  split at o
  · rename_i k hk
    exact ⟨k, by rw [← hK]; exact truth_ok w.rel rr hk, o _ _ _ w.rel w.evo rfl⟩
  · exact o.elim
theorem tTestB {r : TE} {f : ME} (h : ∀ σ H Q, tE R F W f σ H Q → r σ H Q) : ∀ σ H Q, tT R F W (mTestB f) σ H Q → tTest r σ H Q := fun σ H Q q => by
  have q1 := (first (M := rlE) q).mono (Q' := fun y H1 => ∃ k, y = .bl k ∧ Q k H1) fun y H1 ⟨G, r, s1, G1, w, rr, o⟩ => by
    have rr : RR R σ H G1 H1 r y := rr
    split at o
    · cases RR.bl rr; exact ⟨_, rfl, o _ _ _ w.rel w.evo rfl⟩
    · exact o.elim
  exact h σ H _ q1
theorem jt_cmp {op : CmpOp} {r : R2} {p : RV → RV → MS → Out RV} (ho : OpR X (compareOp op) r) (pr : R.K = X.K → PrimR R r p) (ha : JE X R W a fa) (hb : JE X R W b fb) (hm : behindInMarks op b = false := by rfl) : JT X R W (.Compare a [op] [b] pos) (mTestB (mBin p fa fb)) := fun hK F =>
  PT.imp (pt_cmpR ho (ha hK F) (hb hK F) hm) (tTestB (tBin (pr hK)))
/-! chains -/
def isScal : RV → Bool
  | .v (.int _) => true
  | .v (.str _) => true
  | _ => false
theorem RR.scal {Hs' : Hp} {G' : Gh} {H' : Hp} {r : RV} {y : V} (h : RR R σ H G H1 r y) (k : isScal r = true) : RR R σ Hs' G' H' r y := by
  cases r with
  | v x =>
    cases x <;> first | cases k | skip
    · cases RR.int h; exact VR.mkInt (K := R.K) (G := G') (H := H')
    · cases RR.str h; exact VR.mkStr (K := R.K) (G := G') (H := H')
  | own c => cases k
  | loc i => cases k
  | fld n f => cases k
def mChain (p p' : RV → RV → MS → Out RV) (fa fb fc : ME) : ME := fun s => (fa s).bind fun r1 s1 => (fb s1).bind fun r2 s2 => if isScal r2 = true then (p r1 r2 s2).bind fun z s3 => match z with
  | .v (.bl true) => (fc s3).bind fun r3 s4 => p' r2 r3 s4
  | .v (.bl false) => .ok (.v (.bl false)) s3
  | _ => .bad
  else .bad
theorem tChainM {r r' : R2} {p p' : RV → RV → MS → Out RV} (pr : PrimR R r p) (pr' : PrimR R r' p') : ∀ σ H Q, tE R F W (mChain p p' fa fb fc) σ H Q → tChain r r' (tE R F W fa) (tE R F W fb) (tE R F W fc) σ H Q := fun σ H Q h => by
  refine (first (M := rlE) h).mono fun x H1 ⟨G, r1, s1, G1, w, rr, o⟩ => ?_
  refine (next (M := rlE) w o).mono fun y H2 ⟨r2, s2, G2, w2, e12, rr2, o2⟩ => ?_
  split at o2
  · rename_i hs
    refine pr (W := W) w2 (rr.mono e12) rr2 ?_
    cases q : p r1 r2 s2 with
    | ok z s3 =>
      rw [q] at o2
      intro G3 H3 zv rel3 ev3 rr3
      have rr3 : RR R σ H G3 H3 z zv := rr3
      have w3 : Way R F σ G H G3 H3 s3 := ⟨rel3, ev3, w2.st⟩
      simp only [Out.bind_ok] at o2
      split at o2
      · cases RR.bl rr3
        refine ⟨true, rfl, ?_⟩
        rw [if_pos rfl]
        refine (next (M := rlE) w3 o2).mono fun u H4 ⟨r3, s4, G4, w4, e34, rr4, o4⟩ => ?_
        have rr2 : RR R σ H G2 H2 r2 y := rr2
        exact pr' w4 (rr2.scal hs) rr4 o4
      · cases RR.bl rr3
        exact ⟨false, rfl, by rw [if_neg (by simp)]; exact finB w3 o2⟩
      · exact o2.elim
    | exc c xs s2 => rw [q] at o2; exact o2
    | bad => rw [q] at o2; exact o2
  · exact o2.elim
theorem je_chain {op op' : CmpOp} {r r' : R2} {p p' : RV → RV → MS → Out RV} (ho : OpR X (compareOp op) r) (ho' : OpR X (compareOp op') r') (pr : R.K = X.K → PrimR R r p) (pr' : R.K = X.K → PrimR R r' p') (ha : JE X R W a fa) (hb : JE X R W b fb) (hc : JE X R W c fc)
    (hm : lastMarks [op, op'] [b, c] = false := by with_unfolding_all rfl) : JE X R W (.Compare a [op, op'] [b, c] pos) (mChain p p' fa fb fc) := fun hK F => PE.imp (pe_chain ho ho' (ha hK F) (hb hK F) (hc hK F) hm) (tChainM (pr hK) (pr' hK))
theorem jt_chain {op op' : CmpOp} {r r' : R2} {p p' : RV → RV → MS → Out RV} (ho : OpR X (compareOp op) r) (ho' : OpR X (compareOp op') r') (pr : R.K = X.K → PrimR R r p) (pr' : R.K = X.K → PrimR R r' p') (ha : JE X R W a fa) (hb : JE X R W b fb) (hc : JE X R W c fc)
    (hm : lastMarks [op, op'] [b, c] = false := by with_unfolding_all rfl) : JT X R W (.Compare a [op, op'] [b, c] pos) (mTestB (mChain p p' fa fb fc)) := fun hK F => PT.imp (pt_chain ho ho' (ha hK F) (hb hK F) (hc hK F) hm) (tTestB (tChainM (pr hK) (pr' hK)))
/-! and, or, not -/
def mAndT (fa fb : MS → Out Bool) : MS → Out Bool := fun s => (fa s).bind fun b s1 => if b = true then fb s1 else .ok false s1
def mOrT (fa fb : MS → Out Bool) : MS → Out Bool := fun s => (fa s).bind fun b s1 => if b = true then .ok true s1 else fb s1
def mNotT (fa : MS → Out Bool) : MS → Out Bool := fun s => (fa s).bind fun b s1 => .ok (!b) s1
theorem nextT {ft : MS → Out Bool} {Q : Bool → Hp → Prop} (w : Way R F σ G H G1 H1 s1) (o : OutX rlB R F W σ G H (ft s1) Q) : tT R F W ft σ H1 Q := ⟨G1, s1, w.rel, o.rebase w.evo⟩
theorem nextE1 {f : ME} {Q : VK} (w : Way R F σ G H G1 H1 s1) (o : OutX rlE R F W σ G H (f s1) Q) : tE R F W f σ H1 Q := ⟨G1, s1, w.rel, o.rebase w.evo⟩
theorem jw_and {ft fu : MS → Out Bool} (ha : JT X R W a ft) (hb : JW X R W (.BoolOp .And (b :: rest) pos) fu) : JW X R W (.BoolOp .And (a :: b :: rest) pos) (mAndT ft fu) := fun hK F => PW.imp (pw_and (ha hK F) (hb hK F)) fun σ H Q h =>
  (first (M := rlB) h).mono fun y H1 ⟨G, k, s1, G1, w, rr, o⟩ => by
    cases rr
    cases y with
    | true => exact nextT w o
    | false => exact o _ _ _ w.rel w.evo rfl
theorem jw_or {ft fu : MS → Out Bool} (ha : JT X R W a ft) (hb : JW X R W (.BoolOp .Or (b :: rest) pos) fu) : JW X R W (.BoolOp .Or (a :: b :: rest) pos) (mOrT ft fu) := fun hK F => PW.imp (pw_or (ha hK F) (hb hK F)) fun σ H Q h =>
  (first (M := rlB) h).mono fun y H1 ⟨G, k, s1, G1, w, rr, o⟩ => by
    cases rr
    cases y with
    | true => exact o _ _ _ w.rel w.evo rfl
    | false => exact nextT w o
theorem jw_and1 {ft : MS → Out Bool} (ha : JT X R W a ft) : JW X R W (.BoolOp .And [a] pos) ft := fun hK F => pw_and1 (ha hK F)
theorem jw_or1 {ft : MS → Out Bool} (ha : JT X R W a ft) : JW X R W (.BoolOp .Or [a] pos) ft := fun hK F => pw_or1 (ha hK F)
theorem jt_w {ft : MS → Out Bool} (h : JW X R W e ft) : JT X R W e ft := fun hK F => (h hK F).pt
theorem jt_not {ft : MS → Out Bool} (ha : JT X R W a ft) : JT X R W (.UnaryOp .Not a pos) (mNotT ft) := fun hK F => PT.imp (pt_not (ha hK F)) fun σ H Q h =>
  (first (M := rlB) h).mono fun y H1 ⟨G, k, s1, G1, w, rr, o⟩ => by cases rr; exact o _ _ _ w.rel w.evo rfl
/-! as values -/
def mAnd (fa fb : ME) : ME := fun s => (fa s).bind fun r s1 => match truth s1 r with | some true => fb s1 | some false => .ok r s1 | none => .bad
def mOr (fa fb : ME) : ME := fun s => (fa s).bind fun r s1 => match truth s1 r with | some true => .ok r s1 | some false => fb s1 | none => .bad
def mNot (fa : ME) : ME := fun s => (fa s).bind fun r s1 => match truth s1 r with | some b => .ok (.v (.bl (!b))) s1 | none => .bad
theorem je_and {fu : ME} (ha : JE X R W a fa) (hb : JE X R W (.BoolOp .And (b :: rest) pos) fu) : JE X R W (.BoolOp .And (a :: b :: rest) pos) (mAnd fa fu) := fun hK F => PE.imp (pe_andT (ha hK F) (hb hK F)) fun σ H Q h =>
  (first (M := rlE) h).mono fun y H1 ⟨G, r, s1, G1, w, rr, o⟩ => by
    rw [← hK]
    split at o
    · rename_i hk
      exact ⟨true, truth_ok w.rel rr hk, by rw [if_pos rfl]; exact nextE1 w o⟩
    · rename_i hk
      exact ⟨false, truth_ok w.rel rr hk, by rw [if_neg (by simp)]; exact o _ _ _ w.rel w.evo rr⟩
    · exact o.elim
theorem je_or {fu : ME} (ha : JE X R W a fa) (hb : JE X R W (.BoolOp .Or (b :: rest) pos) fu) : JE X R W (.BoolOp .Or (a :: b :: rest) pos) (mOr fa fu) := fun hK F => PE.imp (pe_orT (ha hK F) (hb hK F)) fun σ H Q h =>
  (first (M := rlE) h).mono fun y H1 ⟨G, r, s1, G1, w, rr, o⟩ => by
    rw [← hK]
    split at o
    · rename_i hk
      exact ⟨true, truth_ok w.rel rr hk, by rw [if_pos rfl]; exact o _ _ _ w.rel w.evo rr⟩
    · rename_i hk
      exact ⟨false, truth_ok w.rel rr hk, by rw [if_neg (by simp)]; exact nextE1 w o⟩
    · exact o.elim
theorem je_one {op : BoolOp} (ha : JE X R W a fa) : JE X R W (.BoolOp op [a] pos) fa := fun hK F => pe_one (ha hK F)
theorem je_not (ha : JE X R W a fa) : JE X R W (.UnaryOp .Not a pos) (mNot fa) := fun hK F => PE.imp (pe_notT (ha hK F)) fun σ H Q h =>
  (first (M := rlE) h).mono fun y H1 ⟨G, r, s1, G1, w, rr, o⟩ => by
    rw [← hK]
    split at o
    · rename_i k hk
      exact ⟨k, truth_ok w.rel rr hk, finB w o⟩
    · exact o.elim
def mIfE (ft : MS → Out Bool) (fa fb : ME) : ME := fun s => (ft s).bind fun b s1 => if b = true then fa s1 else fb s1
theorem je_if {ft : MS → Out Bool} (hc : JT X R W c ft) (ha : JE X R W a fa) (hb : JE X R W b fb) : JE X R W (.IfExp c a b pos) (mIfE ft fa fb) := fun hK F => PE.imp (pe_ifExp (hc hK F) (ha hK F) (hb hK F)) fun σ H Q h =>
  (first (M := rlB) h).mono fun y H1 ⟨G, r, s1, G1, w, rr, o⟩ => by
    cases rr
    cases y with
    | true => exact nextE1 w o
    | false => exact nextE1 w o
/-! -a -/
def mNeg (fa : ME) : ME := fun s => (fa s).bind fun r s1 => match r with | .v (.int i) => .ok (.v (.int (-i))) s1 | _ => .bad
theorem je_neg (ha : JE X R W a fa) : JE X R W (.UnaryOp .USub a pos) (mNeg fa) := fun hK F => PE.imp (pe_un un_neg (ha hK F)) fun σ H Q h =>
  (first (M := rlE) h).mono fun y H1 ⟨G, r, s1, G1, w, rr, o⟩ => by
    have rr : RR R σ H G1 H1 r y := rr
    split at o
    · cases RR.int rr; exact ⟨_, rfl, finI w o⟩
    · exact o.elim
end
end Mi
set_option Elab.async false
set_option linter.all false
set_option maxRecDepth 100000
set_option maxHeartbeats 4000000
namespace Mi
open PySem PySem.Spec PyProof.Rows L2
/-- what is walked: the items; what must hold at each turn -/
structure MI where
  items : List MV
  chk : MS → Prop
def Yields (R : RC) (G : Gh) (H : Hp) (x : MV) (v : V) (H' : Hp) : Prop := (H' = H ∧ VR R.K G H x v) ∨
  (∃ T xs vs, x = .tup xs ∧ v = .ref T ∧ H T = none ∧ H' = upd H T (.tup vs) ∧ VRs R.K G H xs vs)
def ItRel (R : RC) (G' : Gh) (H' : Hp) (I : MI) (J : It) : Prop := ∀ F G2 H2 s2 σ2, Rel R F G2 s2 σ2 H2 → Evo (· < F.base) G' H' G2 H2 → I.chk s2 →
  (∀ i, i < I.items.length → J.go i H2) ∧ J.stop I.items.length H2 ∧ ∀ i x v H3, I.items[i]? = some x → J.yld i H2 v H3 → Yields R G2 H2 x v H3
def rlI : RL MI It := ⟨fun R _ _ G H I J => ItRel R G H I J, fun e h F G2 H2 s2 σ2 rel ev c => h F G2 H2 s2 σ2 rel ((e.weak fun _ _ => trivial).trans ev) c, fun _ h => h⟩
def JI (X : Cx) (R : RC) (W : WX) (tg iter : Expr) (f : MS → Out MI) : Prop := R.K = X.K → ∀ F, PI X tg iter (tX rlI R F W f)
/-! targets -/
abbrev MG := MV → MS → Option MS
/-- the slots but those at ws stay -/
def Out_ (ws : List Nat) (σ σ' : L2.St) : Prop := σ'.length = σ.length ∧ ∀ j, j ∉ ws → σ'[j]? = σ[j]?
theorem Out_.trans {ws us : List Nat} {σ σ1 σ2 : L2.St} (a : Out_ ws σ σ1) (b : Out_ us σ1 σ2) : Out_ (ws ++ us) σ σ2 :=
  ⟨b.1.trans a.1, fun j h => (b.2 j fun z => h (List.mem_append_right _ z)).trans (a.2 j fun z => h (List.mem_append_left _ z))⟩
def tG (R : RC) (F : FI) (ws : List Nat) (ft : MG) : TG := fun v σ H Q => ∃ G s x, Rel R F G s σ H ∧ VR R.K G H x v ∧ match ft x s with
  | some s' => ∀ σ', Rel R F G s' σ' H → Out_ ws σ σ' → Q σ' H
  | none => False
def tGs (R : RC) (F : FI) (ws : List Nat) (ft : List MV → MS → Option MS) : TGs := fun vs σ H Q => ∃ G s xs, Rel R F G s σ H ∧ VRs R.K G H xs vs ∧ match ft xs s with
  | some s' => ∀ σ', Rel R F G s' σ' H → Out_ ws σ σ' → Q σ' H
  | none => False
def JG (X : Cx) (R : RC) (tg : Expr) (ws : List Nat) (ft : MG) : Prop := R.K = X.K → ∀ F, PG X tg (tG R F ws ft)
def JGs (X : Cx) (R : RC) (tg : List Expr) (ws : List Nat) (ft : List MV → MS → Option MS) : Prop := R.K = X.K → ∀ F, PGs X tg (tGs R F ws ft)
theorem PG.imp {X : Cx} {e : Expr} {t t' : TG} (h : PG X e t) (k : ∀ v σ H Q, t' v σ H Q → t v σ H Q) : PG X e t' := ⟨fun pins s σ H v u Q I r q => h.run pins s σ H v u Q I r (k v σ H Q q)⟩
theorem PGs.imp {X : Cx} {e : List Expr} {t t' : TGs} (h : PGs X e t) (k : ∀ v σ H Q, t' v σ H Q → t v σ H Q) : PGs X e t' := ⟨fun pins s σ H v u Q I r q => h.run pins s σ H v u Q I r (k v σ H Q q)⟩
section
variable {X : Cx} {R : RC} {W : WX} {pos : Pos}
def gN (i : Nat) : MG := fun x s => if i < s.env.length then some { s with env := s.env.set i (some (.v x)) } else none
theorem jg_name {i : Nat} {x : Str} (hN : X.N.Nodup) (hi : X.N[i]? = some x := by rfl) (hx : Loc X.env.scope x := by first | exact Or.inl rfl | exact Or.inr rfl) (hf : X.fn x = true ∨ X.env.scope.names.lookup x = some .local := by first | exact .inl rfl | exact .inr rfl) : JG X R (.Name x pos) [i] (gN i) := fun _ F =>
  PG.imp (pg_name hN hi hx hf) fun v σ H Q ⟨G, s, x, rel, vr, h⟩ => by
    unfold gN at h
    split at h
    · rename_i s' e
      split at e
      · rename_i hi
        cases e
        exact h _ (rel.setSlot hi fun y e => by cases e; exact vr) ⟨by simp, fun j hj => List.getElem?_set_ne (fun z => hj (by simp [z]))⟩
      · cases e
    · exact h.elim
def gsNil : List MV → MS → Option MS := fun xs s => match xs with | [] => some s | _ => none
def gsCons (t : MG) (u : List MV → MS → Option MS) : List MV → MS → Option MS := fun xs s => match xs with | x :: r => (t x s).bind (u r) | [] => none
theorem jgs_nil : JGs X R [] [] gsNil := fun _ F => PGs.imp pgs_nil fun v σ H Q ⟨G, s, xs, rel, vr, h⟩ => by
  cases xs with
  | nil => unfold VRs at vr; exact ⟨vr, h σ rel ⟨rfl, fun _ _ => rfl⟩⟩
  | cons x xs => exact h.elim
theorem jgs_cons {e : Expr} {es : List Expr} {ws us : List Nat} {t : MG} {u : List MV → MS → Option MS} (h1 : JG X R e ws t) (h2 : JGs X R es us u) (hs : (assignEach (e :: es) X.env).map (·.2) = assign e X.env :: (assignEach es X.env).map (·.2) := by rfl) : JGs X R (e :: es) (ws ++ us) (gsCons t u) := fun hK F =>
  PGs.imp (pgs_cons (h1 hK F) (h2 hK F) hs) fun v σ H Q ⟨G, s, xs, rel, vr, h⟩ => by
    cases xs with
    | nil => exact h.elim
    | cons x xs =>
      obtain ⟨w, r, rfl, p, q⟩ := vr.inv
      simp only [gsCons] at h
      refine ⟨w, r, rfl, G, s, x, rel, p, ?_⟩
      cases e1 : t x s with
      | none => rw [e1] at h; exact h.elim
      | some s1 =>
        rw [e1] at h
        refine fun σ' rel' so => ⟨G, s1, xs, rel', q, ?_⟩
        have h : (match u xs s1 with
          | some s' => ∀ σ', Rel R F G s' σ' H → Out_ (ws ++ us) σ σ' → Q σ' H
          | none => False) := h
        split at h
        · exact fun σ2 r2 so2 => h σ2 r2 (so.trans so2)
        · exact h.elim
def gT (n : Nat) (u : List MV → MS → Option MS) : MG := fun x s => match x with | .tup xs => if xs.length = n then u xs s else none | _ => none
theorem jg_tup {es : List Expr} {k n : Nat} {us : List Nat} {u : List MV → MS → Option MS} (hc : X.calm = true) (h : JGs X R es us u) (hn : (assignEach es X.env).length = n := by rfl) (hst : (assignEach es X.env).findIdx? (·.1) = none := by rfl) : JG X R (.Tuple es k pos) us (gT n u) := fun hK F =>
  PG.imp (pg_tup hc (h hK F) hn hst) fun v σ H Q ⟨G, s, x, rel, vr, q⟩ => by
    unfold gT at q
    split at q
    · rename_i s' e
      split at e
      · rename_i xs
        split at e
        · rename_i hl
          obtain ⟨a, vs, rfl, k, r⟩ := VR.tup vr
          refine ⟨a, vs, rfl, by rw [← hK]; exact k, by rw [← r.length]; exact hl, G, s, _, rel, r, ?_⟩
          rw [e]; exact q
        · cases e
      · cases e
    · exact q.elim
/-! for -/
open Classical in
noncomputable def forGo (chk : MS → Prop) (tg : MG) (body : MSt) : List MV → MS → Out Fl
  | [], s => if chk s then .ok .next s else .bad
  | x :: xs, s => if chk s then (match tg x s with
    | none => .bad
    | some s1 => (body s1).bind fun fl s2 => match fl with
      | .next => forGo chk tg body xs s2
      | .ret r => .ok (.ret r) s2) else .bad
noncomputable def mFor (it : MS → Out MI) (tg : MG) (body : MSt) : MSt := fun s => (it s).bind fun I s1 => forGo I.chk tg body I.items s1
/-- a yielded item, as a value -/
theorem yield_in {F : FI} {G0 G2 : Gh} {H0 H2 : Hp} {s : MS} {σ : L2.St} {x : MV} {v : V} {H3 : Hp} (rel : Rel R F G2 s σ H2) (y : Yields R G2 H2 x v H3) : ∃ G3, Rel R F G3 s σ H3 ∧ VR R.K G3 H3 x v ∧ Evo EvT G2 H2 G3 H3 := by
  rcases y with ⟨rfl, vr⟩ | ⟨T, xs, vs, rfl, rfl, hT, rfl, vr⟩
  · exact ⟨G2, rel, vr, .refl⟩
  · have g := rel.noRole hT
    have h0 := fresh_back rel.since hT
    refine ⟨setG G2 T (some .frz), (rel.alloc (o := .tup vs) hT).setr g ⟨_, upd_same⟩ h0 (.inl rfl), ?_, (Evo.refl.updNew hT g).setr hT g⟩
    unfold VR
    refine ⟨T, vs, rfl, .inl ⟨setG_same, .inl upd_same⟩, ?_⟩
    refine VRs.mono (G := G2) (H := upd H2 T (.tup vs)) (Mo.setr g) _ _ ?_
    exact VRs.mono (Mo.upd (by rw [g]; simp)) _ _ vr
theorem js_for {tg iter : Expr} {body : List Stmt} {ws : List Nat} {fi : MS → Out MI} {ft : MG} {fb : MSt} (hp : PassesOwn (model X.prog X.w) X.A X.env X.xe) (hc : X.calm = true) (hi : JI X R W tg iter fi) (hg : JG X R tg ws ft) (hb : JB X R W body fb)
    (hs : ∀ x, foldedSetIterable iter X.env x = pure x := by intro _; rfl) : JS X R W (.For tg iter body [] pos) (mFor fi ft fb) := fun hK F =>
  PS.imp (ps_for hp hc (hi hK F) (hg hK F) (hb hK F) hs) fun D σ H h => by
    refine (firstS (M := rlI) h).mono fun J H1 ⟨G, I, s1, G1, w, ir, o⟩ => ?_
    have ir : ItRel R G1 H1 I J := ir
    refine ⟨fun i m σ' H' => i ≤ I.items.length ∧ m = I.items.length - i ∧ ∃ G2 s2, Rel R F G2 s2 σ' H' ∧ Evo (· < F.base) G1 H1 G2 H' ∧ OutS R F W G H (forGo I.chk ft fb (I.items.drop i) s2) D, ⟨_, Nat.zero_le _, rfl, G1, s1, w.rel, .refl, by simpa using o⟩, ?_⟩
    rintro i m σ' H' ⟨hi, rfl, G2, s2, rel, ev, o⟩
    by_cases hlt : i < I.items.length
    · right
      rw [List.drop_eq_getElem_cons hlt] at o
      unfold forGo at o
      split at o
      · rename_i hck
        obtain ⟨go, _, yl⟩ := ir F G2 H' s2 σ' rel ev hck
        refine ⟨go i hlt, fun σ3 H3 => ∃ G3 s3, Rel R F G3 s3 σ3 H3 ∧ Evo (· < F.base) G1 H1 G3 H3 ∧ OutS R F W G H (forGo I.chk ft fb (I.items.drop (i + 1)) s3) D, fun σ3 H3 ⟨G3, s3, r3, e3, o3⟩ => ⟨I.items.length - (i + 1), by omega, hlt, rfl, G3, s3, r3, e3, o3⟩, fun x H3 y => ?_⟩
        have hx : I.items[i]? = some I.items[i] := List.getElem?_eq_getElem hlt
        obtain ⟨G3, rel3, vr3, ev3⟩ := yield_in (G0 := G) (H0 := H) rel (yl i _ x H3 hx y)
        refine ⟨G3, s2, _, rel3, vr3, ?_⟩
        split at o
        · exact o.elim
        · rename_i s3 e
          rw [e]
          refine fun σ4 rel4 _ => ⟨G3, s3, rel4, ?_⟩
          have evs : Evo (· < F.base) G1 H1 G3 H3 := ev.trans (ev3.weak fun _ _ => trivial)
          cases q : fb s3 with
          | ok fl s4 =>
            rw [q] at o
            cases fl with
            | next => exact fun G' σ5 H5 rel5 ev5 => ⟨G', s4, rel5, evs.trans ev5, o⟩
            | ret r => exact o
          | exc c xs s4 => rw [q] at o; exact fun G' σ5 H5 cls d r5 ev5 x => o G' σ5 H5 cls d r5 (w.evS.trans (evs.trans ev5)) x
          | bad => rw [q] at o; exact o
      · exact o.elim
    · left
      have e : i = I.items.length := by omega
      subst e
      rw [List.drop_length] at o
      unfold forGo at o
      split at o
      · rename_i hck
        obtain ⟨_, st, _⟩ := ir F G2 H' s2 σ' rel ev hck
        exact ⟨st, o G2 σ' H' rel (w.evS.trans ev)⟩
      · exact o.elim
end
end Mi
set_option Elab.async false
set_option linter.all false
set_option maxRecDepth 100000
set_option maxHeartbeats 4000000
namespace Mi
open PySem PySem.Spec PyProof.Rows L2
theorem PI.imp {X : Cx} {tg iter : Expr} {a b : TI} (h : PI X tg iter a) (k : ∀ σ H R, b σ H R → a σ H R) : PI X tg iter b :=
  ⟨fun pins s σ H R I q => h.run pins s σ H R I (k σ H R q)⟩
/-- a list, a tuple or a text, whichever comes -/
def iAny (K : PySem.W.Frag) (te : TE) : TI := fun σ H R => te σ H fun v H1 => (∃ a, v = .ref a ∧ (∃ xs, SqL K H1 a xs) ∧ R (Itl K a) H1) ∨ (∃ a, v = .ref a ∧ (∃ xs, SqT K H1 a xs) ∧ R (Itt K a) H1) ∨ ∃ x, v = .str x ∧ R (Its x) H1
theorem pi_any {X : Cx} {tg : Expr} {l : Expr} {tl : TE} (hl : PE X l tl) : PI X tg l (iAny X.K tl) := by
  refine ⟨fun pins s σ H Rr I h => ?_⟩
  refine thn (hl.run pins s σ H _ I h) fun v s1 ⟨x, H1, I1, r1, q1⟩ => ?_
  have fp : ∀ b ∈ [s1.heap.objs.size], FpOk X pins H1 b := fun b hb => by
    have e : b = s1.heap.objs.size := by simpa using hb
    subst e
    exact I1.fpOk (Nat.le_refl _) (I1.hok.fresh (Nat.le_refl _))
  rcases q1 with ⟨a, e, ⟨xs, hq⟩, q⟩ | ⟨a, e, ⟨xs, hq⟩, q⟩ | ⟨x, e, q⟩
  · subst e
    cases r1
    obtain ⟨its, rv, p, hz⟩ := I1.list hq
    refine wpAny_pyIter_list p.isList ?_
    exact ⟨s1.heap.objs.size, [s1.heap.objs.size], _, _, H1, rfl, I1.kept (t' := s1.toks) fun b o e => Heap.get?_push_of_some _ e, turn_list a _, ⟨_, Heap.get?_push_size _ rfl, rfl, rfl⟩, fp, q⟩
  · subst e
    cases r1
    obtain ⟨its, rv, p, hz⟩ := I1.tuple hq
    refine wpAny_pyIter_tuple (show s1.heap.IsTuple a its.toArray from p) ?_
    exact ⟨s1.heap.objs.size, [s1.heap.objs.size], _, _, H1, rfl, I1.kept (t' := s1.toks) fun b o e => Heap.get?_push_of_some _ e, turn_tuple a _, ⟨_, Heap.get?_push_size _ rfl, rfl, rfl⟩, fp, q⟩
  · subst e
    obtain ⟨t, rfl⟩ := r1
    cases ha : x.cps.all (· < 128)
    · exact wpAny_pyIter_wide ha (pi_one (tk := s1.toks) I1 _ (turn_str _ x t "str_iterator" (.inr rfl)) ⟨_, Heap.get?_push_size _ rfl, rfl, rfl⟩ q)
    · exact wpAny_pyIter_ascii ha (pi_one (tk := s1.toks) I1 _ (turn_str _ x t "str_ascii_iterator" (.inl rfl)) ⟨_, Heap.get?_push_size _ rfl, rfl, rfl⟩ q)
section
variable {X : Cx} {R : RC} {W : WX} {pos : Pos} {tg : Expr}
def itemsV : MV → Option (List MV)
  | .lst xs => some xs
  | .tup xs => some xs
  | .str z => some (z.map fun c => .str [c])
  | _ => none
/-- the walk over a value -/
def itV (x : MV) (s : MS) : Out MI := match itemsV x with | some xs => .ok ⟨xs, fun _ => True⟩ s | none => .bad
/-- the walk over a place, looked at at each turn -/
def itP (r : RV) (s : MS) : Out MI := match seqOf s r with | some xs => .ok ⟨xs, fun s' => s'.base = s.base ∧ seqOf s' r = some xs⟩ s | none => .bad
def itOf (r : RV) (s1 : MS) : Out MI := match r with
  | .fld n g => if n < s1.base then itP (.fld n g) s1 else .bad
  | .v (.ref n) => itP (.v (.ref n)) s1
  | r => (share r s1).bind fun x s2 => itV x s2
def mIt (f : ME) : MS → Out MI := fun s => (f s).bind itOf
theorem itl_ok {K : PySem.W.Frag} {a : Addr} {xs : List MV} {vs : List V} {G : Gh} {H : Hp} {R : RC} (hK : R.K = K) (k : SqL K H a vs) (r : VRs R.K G H xs vs) :
    (∀ i, i < xs.length → (Itl K a).go i H) ∧ (Itl K a).stop xs.length H ∧ ∀ i x v H3, xs[i]? = some x → (Itl K a).yld i H v H3 → Yields R G H x v H3 := by
  refine ⟨fun i hi => ?_, ⟨vs, k, by rw [r.length]; exact Nat.le_refl _⟩, fun i x v H3 hx y => ?_⟩
  · obtain ⟨v, hv, _⟩ := r.get (List.getElem?_eq_getElem hi)
    exact ⟨vs, v, k, hv⟩
  · obtain ⟨e, y⟩ := y
    obtain ⟨v', hv, q⟩ := r.get hx
    rw [y vs k] at hv; cases hv
    exact .inl ⟨e, q⟩
theorem itt_ok {K : PySem.W.Frag} {a : Addr} {xs : List MV} {vs : List V} {G : Gh} {H : Hp} {R : RC} (hK : R.K = K) (k : SqT K H a vs) (r : VRs R.K G H xs vs) :
    (∀ i, i < xs.length → (Itt K a).go i H) ∧ (Itt K a).stop xs.length H ∧ ∀ i x v H3, xs[i]? = some x → (Itt K a).yld i H v H3 → Yields R G H x v H3 := by
  refine ⟨fun i hi => ?_, ⟨vs, k, by rw [r.length]; exact Nat.le_refl _⟩, fun i x v H3 hx y => ?_⟩
  · obtain ⟨v, hv, _⟩ := r.get (List.getElem?_eq_getElem hi)
    exact ⟨vs, v, k, hv⟩
  · obtain ⟨e, y⟩ := y
    obtain ⟨v', hv, q⟩ := r.get hx
    rw [y vs k] at hv; cases hv
    exact .inl ⟨e, q⟩
/-- what a value is as a thing walked: a list, a tuple, a text, with the items -/
def SrcRel (R : RC) (G' : Gh) (H' : Hp) (I : MI) (v : V) : Prop :=
  (∃ a, v = .ref a ∧ (∃ vs, SqL R.K H' a vs) ∧ ∀ F G2 H2 s2 σ2, Rel R F G2 s2 σ2 H2 → Evo (· < F.base) G' H' G2 H2 → I.chk s2 → ∃ vs, SqL R.K H2 a vs ∧ VRs R.K G2 H2 I.items vs) ∨
  (∃ a, v = .ref a ∧ (∃ vs, SqT R.K H' a vs) ∧ ∀ F G2 H2 s2 σ2, Rel R F G2 s2 σ2 H2 → Evo (· < F.base) G' H' G2 H2 → I.chk s2 → ∃ vs, SqT R.K H2 a vs ∧ VRs R.K G2 H2 I.items vs) ∨
  (∃ z : List Nat, v = .str ⟨z.toArray⟩ ∧ I.items = z.map fun c => .str [c])
theorem list_of_seq {F : FI} {σ : L2.St} {G : Gh} {H Hs : Hp} {s : MS} {r : RV} {v : V} {xs : List MV} (rel : Rel R F G s σ H) (rr : RR R σ Hs G H r v) (nt : ∀ ys, r ≠ .v (.tup ys)) (e : seqOf s r = some xs) : ∃ a vs, v = .ref a ∧ SqL R.K H a vs ∧ VRs R.K G H xs vs := by
  unfold seqOf at e
  split at e
  · exact absurd rfl (nt _)
  · split at e
    · rename_i ys c
      cases e
      obtain ⟨a, q, cr⟩ := cont_ok rel rr c
      obtain ⟨vs, k, h⟩ := cr.sq
      exact ⟨a, vs, q, k, h⟩
    · cases e
theorem src_way {F : FI} {σ : L2.St} {G G1 : Gh} {H H1 : Hp} {s1 : MS} {r : RV} {v : V} {α β : Type} {L : RL α β} {k : MI → MS → Out α} {Q : β → Hp → Prop} (w : Way R F σ G H G1 H1 s1) (rr : RR R σ H G1 H1 r v)
    (o : OutX L R F W σ G H ((itOf r s1).bind k) Q) : ∃ I s2 G2, Way R F σ G H G2 H1 s2 ∧ SrcRel R G2 H1 I v ∧ OutX L R F W σ G H (k I s2) Q := by
  have value : ∀ {G1 : Gh} {s1 : MS} {x : MV}, Way R F σ G H G1 H1 s1 → VR R.K G1 H1 x v → OutX L R F W σ G H ((itV x s1).bind k) Q →
      ∃ I s2 G2, Way R F σ G H G2 H1 s2 ∧ SrcRel R G2 H1 I v ∧ OutX L R F W σ G H (k I s2) Q := fun {G1 s1 x} w vr o => by
    unfold itV at o
    cases x with
    | lst xs =>
      unfold VR at vr
      obtain ⟨a, vs, rfl, k, r⟩ := vr
      exact ⟨_, _, G1, w, .inl ⟨a, rfl, ⟨vs, k.sq⟩, fun F2 G2 H2 s2 σ2 rel ev _ => ⟨vs, (k.mono ev.mo).sq, VRs.mono ev.mo _ _ r⟩⟩, o⟩
    | tup xs =>
      unfold VR at vr
      obtain ⟨a, vs, rfl, k, r⟩ := vr
      exact ⟨_, _, G1, w, .inr (.inl ⟨a, rfl, ⟨vs, k.sq⟩, fun F2 G2 H2 s2 σ2 rel ev _ => ⟨vs, (k.mono ev.mo).sq, VRs.mono ev.mo _ _ r⟩⟩), o⟩
    | str z =>
      cases VR.str vr
      exact ⟨_, _, G1, w, .inr (.inr ⟨z, rfl, rfl⟩), o⟩
    | non => exact o.elim
    | bl b => exact o.elim
    | int i => exact o.elim
    | dct a b => exact o.elim
    | ref n => exact o.elim
  have viaShare : OutX L R F W σ G H (((share r s1).bind fun x s2 => itV x s2).bind k) Q → ∃ I s2 G2, Way R F σ G H G2 H1 s2 ∧ SrcRel R G2 H1 I v ∧ OutX L R F W σ G H (k I s2) Q := fun o => by
    cases q : share r s1 with
    | ok x s2 =>
      rw [q] at o
      obtain ⟨G2, w2, _, vr⟩ := share_ok w rr q
      exact value w2 vr o
    | exc c xs s2 => exact absurd q share_noexc
    | bad => rw [q] at o; exact o.elim
  cases r with
  | own c => exact viaShare o
  | loc i => exact viaShare o
  | fld n g =>
    simp only [itOf] at o
    split at o
    · rename_i hn
      unfold itP at o
      split at o
      · rename_i xs hx
        obtain ⟨a, vs, e, k, _⟩ := list_of_seq w.rel rr (fun ys q => by cases q) hx
        obtain ⟨b, e2, gb⟩ := rr
        rw [e] at e2; cases e2
        refine ⟨_, _, G1, w, .inl ⟨a, e, ⟨vs, k⟩, fun F2 G2 H2 s2 σ2 rel ev ck => ?_⟩, o⟩
        have hb : n < F2.base := by rw [← rel.base, ck.1]; exact hn
        have rr2 : RR R σ2 H2 G2 H2 (.fld n g) (.ref a) := ⟨a, rfl, ev.fl a n g hb gb⟩
        obtain ⟨a3, ws, q3, k3, h3⟩ := list_of_seq rel rr2 (fun ys q => by cases q) ck.2
        cases q3
        exact ⟨ws, k3, h3⟩
      · exact o.elim
    · exact o.elim
  | v x =>
    cases x with
    | ref n =>
      simp only [itOf] at o
      unfold itP at o
      split at o
      · rename_i xs hx
        obtain ⟨a, vs, e, k, _⟩ := list_of_seq w.rel rr (fun ys q => by cases q) hx
        have vr : VR R.K G1 H1 (.ref n) v := rr
        unfold VR at vr
        obtain ⟨a2, e2, g⟩ := vr
        rw [e] at e2; cases e2
        refine ⟨_, _, G1, w, .inl ⟨a, e, ⟨vs, k⟩, fun F2 G2 H2 s2 σ2 rel ev ck => ?_⟩, o⟩
        have rr2 : RR R σ2 H2 G2 H2 (.v (.ref n)) (.ref a) := by
          show VR _ _ _ _ _
          unfold VR
          exact ⟨a, rfl, ev.ob a n g⟩
        obtain ⟨a3, ws, q3, k3, h3⟩ := list_of_seq rel rr2 (fun ys q => by cases q) ck.2
        cases q3
        exact ⟨ws, k3, h3⟩
      · exact o.elim
    | non => exact viaShare o
    | bl b => exact viaShare o
    | int i => exact viaShare o
    | str z => exact viaShare o
    | tup xs => exact viaShare o
    | lst xs => exact viaShare o
    | dct a b => exact viaShare o
theorem bind_id {α β : Type} {L : RL α β} {F : FI} {σ : L2.St} {G : Gh} {H : Hp} {o : Out α} {Q : β → Hp → Prop} (h : OutX L R F W σ G H o Q) : OutX L R F W σ G H (o.bind fun a s => .ok a s) Q := by
  cases o <;> exact h
theorem str_its {z : List Nat} {G : Gh} {H : Hp} : (∀ i, i < (z.map fun c => MV.str [c]).length → (Its ⟨z.toArray⟩).go i H) ∧ (Its ⟨z.toArray⟩).stop (z.map fun c => MV.str [c]).length H ∧
    ∀ i x v H3, (z.map fun c => MV.str [c])[i]? = some x → (Its ⟨z.toArray⟩).yld i H v H3 → H3 = H ∧ VR R.K G H x v := by
  refine ⟨fun i hi => ?_, ?_, fun i x v H3 hx y => ?_⟩
  · simpa [Its] using hi
  · simp [Its]
  · obtain ⟨e, c, hc, ev⟩ := y
    simp only [List.getElem?_map, Option.map_eq_some_iff] at hx
    obtain ⟨c', hc', rfl⟩ := hx
    simp only [List.getElem?_toArray] at hc
    rw [hc'] at hc; cases hc
    subst ev
    exact ⟨e, VR.mkStr⟩
theorem ji_any {l : Expr} {f : ME} (hl : JE X R W l f) : JI X R W tg l (mIt f) := fun hK F => PI.imp (pi_any (hl hK F)) fun σ H Rr h => by
  refine (first (M := rlE) h).mono fun v H1 ⟨G, r, s1, G1, w, rr, o⟩ => ?_
  obtain ⟨I, s2, G2, w2, sr, o2⟩ := src_way w rr (bind_id o)
  rcases sr with ⟨a, e, ⟨vs, k⟩, h⟩ | ⟨a, e, ⟨vs, k⟩, h⟩ | ⟨z, e, hz⟩
  · refine .inl ⟨a, e, ⟨vs, by rw [← hK]; exact k⟩, o2 _ _ _ w2.rel w2.evo ?_⟩
    intro F2 G3 H2 s3 σ2 rel ev ck
    obtain ⟨ws, k2, h2⟩ := h F2 G3 H2 s3 σ2 rel ev ck
    exact itl_ok hK (by rw [← hK]; exact k2) h2
  · refine .inr (.inl ⟨a, e, ⟨vs, by rw [← hK]; exact k⟩, o2 _ _ _ w2.rel w2.evo ?_⟩)
    intro F2 G3 H2 s3 σ2 rel ev ck
    obtain ⟨ws, k2, h2⟩ := h F2 G3 H2 s3 σ2 rel ev ck
    exact itt_ok hK (by rw [← hK]; exact k2) h2
  · refine .inr (.inr ⟨_, e, o2 _ _ _ w2.rel w2.evo ?_⟩)
    intro F2 G3 H2 s3 σ2 rel ev ck
    obtain ⟨a, b, c⟩ := str_its (R := R) (z := z) (G := G3) (H := H2)
    rw [hz]
    exact ⟨a, b, fun i x v H3 hx y => .inl (c i x v H3 hx y)⟩
/-! ranges -/
def mRange1 (fa : MS → Out (List RV)) : MS → Out MI := fun s => (fa s).bind fun rs s1 => match rs with
  | [.v (.int j)] => if -(2 ^ 62) ≤ j ∧ j < 2 ^ 62 then .ok ⟨(List.range j.toNat).map fun i : Nat => .int i, fun _ => True⟩ s1 else .bad
  | _ => .bad
theorem ji_range1 {a : Expr} {fa : MS → Out (List RV)} {p : Pos} (hm : X.mg "range" = none) (ha : JA X R W [a] fa) (hg : Gl X "range" := by rfl) (hs : starEach [a] X.env = [(false, eval a X.env)] := by rfl) : JI X R W tg (.Call (.Name "range" p) [a] [] pos) (mRange1 fa) := fun hK F =>
  PI.imp (pi_range1 hg hm (ha hK F) hs) fun σ H Rr h => (first (M := rlR) h).mono fun vs H1 ⟨G, rs, s1, G1, w, rr, o⟩ => by
    have rr : RRs R σ H G1 H1 rs vs := rr
    split at o
    · obtain ⟨v, t, rfl, r1, rfl⟩ := rr
      cases RR.int r1
      split at o
      · rename_i hj
        refine ⟨_, rfl, hj.1, hj.2, o _ _ _ w.rel w.evo ?_⟩
        intro F2 G2 H2 s2 σ2 rel ev _
        refine ⟨fun i hi => (by simp only [List.length_map, List.length_range] at hi; exact hi), (by simp only [List.length_map, List.length_range]; exact Nat.le_refl _), fun i x v H3 hx y => ?_⟩
        obtain ⟨e, y⟩ := y
        simp only [List.getElem?_map, Option.map_eq_some_iff] at hx
        obtain ⟨k, hk, rfl⟩ := hx
        have hk' := List.getElem?_eq_some_iff.mp hk
        obtain ⟨h1, h2⟩ := hk'
        simp at h2
        subst h2
        refine .inl ⟨e, ?_⟩
        rw [y]
        unfold VR
        simp
      · exact o.elim
    · exact o.elim
def mRange2 (fa : MS → Out (List RV)) : MS → Out MI := fun s => (fa s).bind fun rs s1 => match rs with
  | [.v (.int a), .v (.int b)] => if -(2 ^ 62) ≤ a ∧ a < 2 ^ 62 ∧ -(2 ^ 62) ≤ b ∧ b < 2 ^ 62 then .ok ⟨(List.range (b - a).toNat).map fun i : Nat => .int (a + i), fun _ => True⟩ s1 else .bad
  | _ => .bad
theorem ji_range2 {a b : Expr} {fa : MS → Out (List RV)} {p : Pos} (hm : X.mg "range" = none) (ha : JA X R W [a, b] fa) (hg : Gl X "range" := by rfl) (hs : starEach [a, b] X.env = [(false, eval a X.env), (false, eval b X.env)] := by rfl) (hs2 : starEach [b] X.env = [(false, eval b X.env)] := by rfl) : JI X R W tg (.Call (.Name "range" p) [a, b] [] pos) (mRange2 fa) := fun hK F =>
  PI.imp (pi_range2 hg hm (ha hK F) hs hs2) fun σ H Rr h => (first (M := rlR) h).mono fun vs H1 ⟨G, rs, s1, G1, w, rr, o⟩ => by
    have rr : RRs R σ H G1 H1 rs vs := rr
    split at o
    · obtain ⟨v, t, rfl, r1, v2, t2, rfl, r2, rfl⟩ := rr
      cases RR.int r1
      cases RR.int r2
      split at o
      · rename_i hj
        refine ⟨_, _, rfl, hj, o _ _ _ w.rel w.evo ?_⟩
        intro F2 G2 H2 s2 σ2 rel ev _
        refine ⟨fun i hi => (by simp only [List.length_map, List.length_range] at hi; exact hi), (by simp only [List.length_map, List.length_range]; exact Nat.le_refl _), fun i x v H3 hx y => ?_⟩
        obtain ⟨e, y⟩ := y
        simp only [List.getElem?_map, Option.map_eq_some_iff] at hx
        obtain ⟨k, hk, rfl⟩ := hx
        obtain ⟨h1, h2⟩ := List.getElem?_eq_some_iff.mp hk
        simp at h2
        subst h2
        refine .inl ⟨e, ?_⟩
        rw [y]
        unfold VR
        simp
      · exact o.elim
    · exact o.elim
end
end Mi
set_option Elab.async false
set_option linter.all false
set_option maxRecDepth 100000
set_option maxHeartbeats 4000000
namespace Mi
open PySem PySem.Spec PyProof.Rows L2
/-! the slots of a comprehension's own names -/
def wipeM {α : Type} (env : List (Option α)) : List Nat → List (Option α)
  | [] => env
  | v :: vs => (wipeM env vs).set v none
theorem wipeM_eq (σ : L2.St) : ∀ vs, wipe σ vs = wipeM σ vs
  | [] => rfl
  | v :: vs => by unfold wipe wipeM; rw [wipeM_eq σ vs]
theorem wipeM_length {α : Type} (env : List (Option α)) : ∀ vs, (wipeM env vs).length = env.length
  | [] => rfl
  | v :: vs => by unfold wipeM; rw [List.length_set, wipeM_length env vs]
theorem wipeM_get {α : Type} (env : List (Option α)) : ∀ (vs : List Nat) (i : Nat), (wipeM env vs)[i]? = if i ∈ vs ∧ i < env.length then some none else env[i]?
  | [], i => by simp [wipeM]
  | v :: vs, i => by
    unfold wipeM
    by_cases h : i = v
    · subst h
      by_cases hl : i < env.length
      · rw [List.getElem?_set_self (by rw [wipeM_length]; exact hl), if_pos ⟨by simp, hl⟩]
      · rw [if_neg fun z => hl z.2, List.getElem?_eq_none (by rw [List.length_set, wipeM_length]; omega), List.getElem?_eq_none (by omega)]
    · rw [List.getElem?_set_ne (Ne.symm h), wipeM_get env vs i]
      have : (i ∈ v :: vs) ↔ i ∈ vs := by simp [h]
      simp only [this]
/-- behind a comprehension: the own names' slots as they were (containers let go) -/
def backEnv (env0 env : List (Option SV)) : List Nat → List (Option SV)
  | [] => env
  | v :: vs => (backEnv env0 env vs).set v (match env0[v]? with | some (some (.v x)) => some (.v x) | _ => none)
theorem backEnv_length (env0 env : List (Option SV)) : ∀ vs, (backEnv env0 env vs).length = env.length
  | [] => rfl
  | v :: vs => by unfold backEnv; rw [List.length_set, backEnv_length env0 env vs]
theorem backEnv_out (env0 env : List (Option SV)) : ∀ (vs : List Nat) (i : Nat), i ∉ vs → (backEnv env0 env vs)[i]? = env[i]?
  | [], i, _ => rfl
  | v :: vs, i, h => by
    unfold backEnv
    rw [List.getElem?_set_ne (fun z => h (by simp [z])), backEnv_out env0 env vs i fun z => h (List.mem_cons_of_mem _ z)]
theorem backEnv_in (env0 env : List (Option SV)) : ∀ (vs : List Nat) (i : Nat) (sv : SV), i ∈ vs → (backEnv env0 env vs)[i]? = some (some sv) → env0[i]? = some (some sv) ∧ ∃ x, sv = .v x
  | v :: vs, i, sv, h, e => by
    unfold backEnv at e
    by_cases hv : i = v
    · subst hv
      by_cases hl : i < (backEnv env0 env vs).length
      · rw [List.getElem?_set_self hl] at e
        have e := Option.some.inj e
        split at e
        · rename_i x hx; cases e; exact ⟨hx, x, rfl⟩
        · cases e
      · rw [List.getElem?_eq_none (by rw [List.length_set]; omega)] at e; cases e
    · rw [List.getElem?_set_ne (Ne.symm hv)] at e
      rcases List.mem_cons.mp h with z | z
      · exact absurd z hv
      · exact backEnv_in env0 env vs i sv z e
section
variable {R : RC} {F : FI} {G G1 : Gh} {H H1 : Hp} {s s1 : MS} {σ : L2.St}
theorem Rel.wipe (h : Rel R F G s σ H) (vs : List Nat) : Rel R F G { s with env := wipeM s.env vs } (L2.wipe σ vs) H := by
  refine ⟨h.hp, by simp only [wipeM_length, wipe_length]; exact h.len, fun i sv e => ?_, h.since, h.base, h.le, h.ent⟩
  rw [wipeM_eq, wipeM_get]
  simp only [wipeM_get] at e
  split at e
  · cases e
  · rename_i hn
    rw [h.len] at hn
    rw [if_neg hn]
    exact h.env i sv e
theorem Rel.unwipe {vs : List Nat} (h0 : Rel R F G s σ H) (h : Rel R F G1 s1 (L2.wipe σ vs) H1) (m : Mo G H G1 H1) : Rel R F G1 { s1 with env := backEnv s.env s1.env vs } σ H1 := by
  refine ⟨h.hp, ?_, fun i sv e => ?_, h.since, h.base, h.le, h.ent⟩
  · simp only [backEnv_length]
    rw [h.len, wipe_length]
  · by_cases hi : i ∈ vs
    · obtain ⟨e0, x, rfl⟩ := backEnv_in _ _ _ _ _ hi e
      obtain ⟨v, q, k⟩ := h0.env i _ e0
      exact ⟨v, q, VR.mono m x v k⟩
    · simp only [backEnv_out _ _ _ _ hi] at e
      obtain ⟨v, q, k⟩ := h.env i _ e
      rw [wipeM_eq, wipeM_get, if_neg fun z => hi z.1] at q
      exact ⟨v, q, k⟩
/-- a thing under construction is written -/
theorem Rel.updNone {a : Addr} {o : HO} (h : Rel R F G s σ H) (g : G a = none) (h0 : F.H0 a = none) : Rel R F G s σ (L2.upd H a o) := by
  refine ⟨h.hp.upd (.inl g), h.len, env_keep (Mo.upd (by rw [g]; simp)) h.env fun b i gb => ⟨gb, upd_ne fun z => by rw [z, g] at gb; cases gb⟩, ?_, h.base, h.le, h.ent⟩
  exact h.since.updNew h0 g
end
/-- nothing is let out -/
def noExc {α : Type} (o : Out α) : Out α := match o with | .exc _ _ _ => .bad | o => o
section
variable {X : Cx} {R : RC} {W : WX} {pos : Pos}
def JTs (X : Cx) (R : RC) (W : WX) (ifs : List Expr) (f : MS → Out Bool) : Prop := R.K = X.K → ∀ F, PTs X ifs (tT R F W f)
def mYes : MS → Out Bool := fun s => .ok true s
theorem PTs.imp {X : Cx} {e : List Expr} {t t' : TT} (h : PTs X e t) (k : ∀ σ H Q, t' σ H Q → t σ H Q) : PTs X e t' := ⟨fun pins s σ H Q I q => h.run pins s σ H Q I (k σ H Q q)⟩
theorem jts_nil : JTs X R W [] mYes := fun _ F => PTs.imp pts_nil fun σ H Q ⟨G, s, rel, h⟩ => h G H true rel .refl rfl
theorem jts_one {c : Expr} {f : MS → Out Bool} (h : JT X R W c f) : JTs X R W [c] f := fun hK F => pts_one (h hK F)
open Classical in
noncomputable def lcGo (vs : List Nat) (chk : MS → Prop) (tg : MG) (tt : MS → Out Bool) (te : ME) : List MV → List MV → MS → Out (List MV)
  | [], acc, s => if chk s then .ok acc s else .bad
  | x :: xs, acc, s => if chk s then (match tg x s with
    | none => .bad
    | some s1 => (tt s1).bind fun b s2 => if b = true then (mSh te s2).bind fun y s3 => if acc.length < sizeLine then lcGo vs chk tg tt te xs (acc ++ [y]) { s3 with env := wipeM s3.env vs } else .bad
      else lcGo vs chk tg tt te xs acc { s2 with env := wipeM s2.env vs }) else .bad
noncomputable def mLc (vs : List Nat) (it : MS → Out MI) (tg : MG) (tt : MS → Out Bool) (te : ME) : ME := fun s => (it s).bind fun I s1 =>
  (noExc (lcGo vs I.chk tg tt te I.items [] { s1 with env := wipeM s1.env vs })).bind fun acc s2 => .ok (.own (.lst acc)) { s2 with env := backEnv s1.env s2.env vs }
theorem wipe_out {σ σ' : L2.St} {ws vs : List Nat} (o : Out_ ws σ σ') (h : ∀ i ∈ ws, i ∈ vs) : L2.wipe σ' vs = L2.wipe σ vs := by
  rw [wipeM_eq, wipeM_eq]
  refine List.ext_getElem? fun i => ?_
  rw [wipeM_get, wipeM_get, o.1]
  by_cases hi : i ∈ vs
  · by_cases hl : i < σ.length
    · rw [if_pos ⟨hi, hl⟩, if_pos ⟨hi, hl⟩]
    · rw [if_neg fun z => hl z.2, if_neg fun z => hl z.2, List.getElem?_eq_none (by rw [o.1]; omega), List.getElem?_eq_none (by omega)]
  · rw [if_neg fun z => hi z.1, if_neg fun z => hi z.1]
    exact o.2 i fun z => hi (h i z)
theorem wipe_wipe {σ : L2.St} {vs : List Nat} : L2.wipe (L2.wipe σ vs) vs = L2.wipe σ vs := by
  refine List.ext_getElem? fun i => ?_
  simp only [wipeM_eq, wipeM_get, wipeM_length]
  by_cases hi : i ∈ vs ∧ i < σ.length
  · simp only [if_pos hi]
  · simp only [if_neg hi]
theorem je_lc {elt tg iter : Expr} {ifs : List Expr} {scope : Scope} {own : List (Str × Nat)} {ws : List Nat} {fi : MS → Out MI} {ft : MG} {ftt : MS → Out Bool} {fe : ME} (hc : X.calm = true) (hN : X.N.Nodup) (hi : JI X R W tg iter fi) (ok : BlkOk X.N X.env.scope scope own)
    (hg : ∀ (s : Shared) (H : Hp) (C : Addr) (cl : List (Str × Addr)) (fp : List Addr), JG (X.blk s H scope (compEnvC scope cl C X.env) fp) R tg ws ft)
    (ht : ∀ (s : Shared) (H : Hp) (C : Addr) (cl : List (Str × Addr)) (fp : List Addr), JTs (X.blk s H scope (compEnvC scope cl C X.env) fp) R (fun _ _ _ _ => False) ifs ftt)
    (he : ∀ (s : Shared) (H : Hp) (C : Addr) (cl : List (Str × Addr)) (fp : List Addr), JE (X.blk s H scope (compEnvC scope cl C X.env) fp) R (fun _ _ _ _ => False) elt fe)
    (hw : ∀ i ∈ ws, i ∈ own.map (·.2) := by decide) (hs : ∀ x, foldedSetIterable iter X.env x = pure x := by intro _; rfl) : JE X R W (.ListComp elt [⟨tg, iter, ifs, 0⟩] scope pos) (mLc (own.map (·.2)) fi ft ftt fe) := fun hK F => by
  generalize hvs : own.map (·.2) = vs at hw
  refine PE.imp (pe_lc hc hN (hi hK F) ok (fun s H C cl fp => hg s H C cl fp hK F) (fun s H C cl fp => ht s H C cl fp hK F) (fun s H C cl fp => jv_of (he s H C cl fp) hK F) hs) fun σ H Q h => ?_
  rw [hvs]
  refine (first (M := rlI) h).mono fun J H1 ⟨G, I, s1, G1, w, ir, o⟩ => ?_
  have ir : ItRel R G1 H1 I J := ir
  intro D hD
  have gD := w.rel.noRole hD
  have hDs := fresh_back w.evo hD
  have hD0 := fresh_back w.st hDs
  refine ⟨fun i m H' => i ≤ I.items.length ∧ m = I.items.length - i ∧ ∃ G2 s2 acc ws', Rel R F G2 s2 (L2.wipe σ vs) H' ∧ Evo EvT G1 H1 G2 H' ∧ G2 D = none ∧ H' D = some (.lst ws') ∧ VRs R.K G2 H' acc ws' ∧
    OutX rlE R F W σ G H ((noExc (lcGo vs I.chk ft ftt fe (I.items.drop i) acc s2)).bind fun acc s2 => .ok (.own (.lst acc)) { s2 with env := backEnv s1.env s2.env vs }) Q,
    ⟨_, Nat.zero_le _, rfl, G1, _, [], [], (w.rel.alloc (o := .lst []) hD).wipe vs, Evo.refl.updNew hD gD, gD, upd_same, VRs.nil, by simpa using o⟩, ?_⟩
  rintro i m H' ⟨hi, rfl, G2, s2, acc, ws', rel, ev, gD2, hD2, vacc, o⟩
  by_cases hlt : i < I.items.length
  · right
    rw [List.drop_eq_getElem_cons hlt] at o
    unfold lcGo at o
    split at o
    · rename_i hck
      obtain ⟨go, _, yl⟩ := ir F G2 H' s2 _ rel (ev.weak fun _ _ => trivial) hck
      refine ⟨go i hlt, fun H3 => ∃ G3 s3 acc ws', Rel R F G3 s3 (L2.wipe σ vs) H3 ∧ Evo EvT G1 H1 G3 H3 ∧ G3 D = none ∧ H3 D = some (.lst ws') ∧ VRs R.K G3 H3 acc ws' ∧
        OutX rlE R F W σ G H ((noExc (lcGo vs I.chk ft ftt fe (I.items.drop (i + 1)) acc s3)).bind fun acc s2 => .ok (.own (.lst acc)) { s2 with env := backEnv s1.env s2.env vs }) Q,
        fun H3 ⟨G3, s3, a3, w3, k⟩ => ⟨I.items.length - (i + 1), by omega, hlt, rfl, G3, s3, a3, w3, k⟩, fun x H3 y => ?_⟩
      have hx : I.items[i]? = some I.items[i] := List.getElem?_eq_getElem hlt
      obtain ⟨G3, rel3, vr3, ev3⟩ := yield_in (G0 := G) (H0 := H) rel (yl i _ x H3 hx y)
      refine ⟨G3, s2, _, rel3, vr3, ?_⟩
      split at o
      · exact o.elim
      · rename_i s3 e
        rw [e]
        intro σ4 rel4 so
        have hwp : L2.wipe σ4 vs = L2.wipe (L2.wipe σ vs) vs := wipe_out so hw
        have hwp : L2.wipe σ4 vs = L2.wipe σ vs := by rw [hwp, wipe_wipe]
        refine ⟨hwp, ?_⟩
        obtain ⟨hD3, gD3⟩ := ev3.un D _ hD2 gD2
        -- the test
        refine ⟨G3, s3, rel4, ?_⟩
        cases q : ftt s3 with
        | bad => rw [q] at o; exact o.elim
        | exc c xs s4 => rw [q] at o; exact o.elim
        | ok b s4 =>
          rw [q] at o
          intro G4 H4 b' rel5 ev5 eb
          have eb : b' = b := eb
          subst eb
          obtain ⟨hD4, gD4⟩ := ev5.un D _ hD3 gD3
          have ev4 : Evo EvT G1 H1 G4 H4 := ev.trans (ev3.trans ev5)
          have vacc4 := VRs.mono (ev3.trans ev5).mo _ _ vacc
          simp only [Out.bind_ok] at o
          cases b' with
          | false =>
            simp only [Bool.false_eq_true, if_false] at o ⊢
            exact ⟨G4, _, acc, ws', by have := rel5.wipe vs; rw [hwp] at this; exact this, ev4, gD4, hD4, vacc4, o⟩
          | true =>
            simp only [if_true] at o ⊢
            refine ⟨G4, s4, rel5, ?_⟩
            cases q2 : mSh fe s4 with
            | bad => rw [q2] at o; exact o.elim
            | exc c xs s5 => rw [q2] at o; exact o.elim
            | ok y5 s5 =>
              rw [q2] at o
              intro G5 H5 yv rel6 ev6 vy
              have vy : VR R.K G5 H5 y5 yv := vy
              simp only [Out.bind_ok] at o
              obtain ⟨hD5, gD5⟩ := ev6.un D _ hD4 gD4
              split at o
              · rename_i hz
                have v5 := VRs.mono ev6.mo _ _ vacc4
                refine ⟨ws', hD5, by rw [← v5.length]; exact hz, ?_⟩
                have mu : Mo G5 H5 G5 (upd H5 D (.lst (ws' ++ [yv]))) := Mo.upd (by rw [gD5]; simp)
                refine ⟨G5, _, acc ++ [y5], ws' ++ [yv], ?_, (ev4.trans ev6).updNew hD gD5, gD5, upd_same, (VRs.mono mu _ _ v5).append (.cons (VR.mono mu _ _ vy) .nil), o⟩
                have r7 := (rel6.updNone (o := .lst (ws' ++ [yv])) gD5 hD0).wipe vs
                rw [hwp] at r7
                exact r7
              · exact o.elim
    · exact o.elim
  · left
    have e : i = I.items.length := by omega
    subst e
    rw [List.drop_length] at o
    unfold lcGo at o
    split at o
    · rename_i hck
      obtain ⟨_, st, _⟩ := ir F G2 H' s2 _ rel (ev.weak fun _ _ => trivial) hck
      exact ⟨st, o G2 H' (.ref D) (w.rel.unwipe rel ev.mo) (w.evo.trans ev) ⟨D, rfl, hDs, gD2, ws', hD2, vacc⟩⟩
    · exact o.elim
end
end Mi
set_option Elab.async false
set_option linter.all false
set_option maxRecDepth 100000
set_option maxHeartbeats 4000000
namespace Mi
open PySem PySem.Spec PyProof.Rows L2
def env0 (n : Nat) (args : List MV) : List (Option SV) := args.map (fun x => some (.v x)) ++ List.replicate (n - args.length) none
/-- a body run as a function; n: its slots -/
def runOf (n : Nat) (fb : MSt) : Fn := fun args hp => match fb ⟨env0 n args, hp, hp.length⟩ with
  | .ok .next s => .ok (.v .non) s.hp
  | .ok (.ret r) s => .ok r s.hp
  | .exc c xs s => .exc c xs s.hp
  | .bad => .bad
theorem Evo.ofNoLoc {P : Nat → Prop} {G G' : Gh} {H H' : Hp} (e : Evo P (noLoc G) H G' H') : Evo P G H G' H' :=
  ⟨fun a o h g => e.un a o h (noLoc_of g rfl), fun a g => e.fz a (noLoc_of g rfl), fun a n g => e.ob a n (noLoc_of g rfl), fun a n f p g => e.fl a n f p (noLoc_of g rfl), e.tk⟩
theorem start_rel {R : RC} {G : Gh} {hp : List MO} {H : Hp} {args : List MV} {vs : List V} {N : List Str} (h : HRel R G hp H) (r : VRs R.K G H args vs) (hn : args.length ≤ N.length) : Rel R ⟨noLoc G, H, hp.length⟩ (noLoc G) ⟨env0 N.length args, hp, hp.length⟩ (L2.start N vs) H := by
  have hl := r.length
  refine ⟨h.noLoc, ?_, fun i sv e => ?_, .refl, rfl, Nat.le_refl _, fun a q (g : noLoc G a = some q) => ?_⟩
  · simp [env0, L2.start, hl]
  · have r' := VRs.mono Mo.noLoc _ _ r
    simp only [env0] at e
    by_cases hi : i < args.length
    · rw [List.getElem?_append_left (by simpa using hi)] at e
      simp only [List.getElem?_map, Option.map_eq_some_iff] at e
      obtain ⟨x, hx, e2⟩ := e
      cases e2
      obtain ⟨v, hv, q⟩ := r'.get hx
      refine ⟨v, ?_, q⟩
      unfold L2.start
      rw [List.getElem?_append_left (by rw [List.length_map, ← hl]; exact hi), List.getElem?_map, hv]; rfl
    · rw [List.getElem?_append_right (by simpa using hi)] at e
      have := List.mem_of_getElem? e
      simp at this
  · have g0 := g
    have g := of_noLoc g
    cases q with
    | frz => exact .inl rfl
    | obj n => exact .inr (.inl ⟨n, rfl⟩)
    | fld n f =>
      obtain ⟨c, cl, fs, dx, hfs, nm, gc, _⟩ := h.fldOk a n f g
      exact .inr (.inr ⟨n, f, h.lt c n gc, rfl⟩)
    | loc i =>
      unfold noLoc at g0
      rw [g] at g0
      cases g0
section
variable {P : Program} {w : World} {K : PySem.W.Frag} {mg : Str → Option Value} {base : Heap} {R : RC}
theorem fn_def {x qual : Str} {st : Stmt} {f : Addr} {fd : FuncData} {N ps : List Str} {k : Nat} {fb : MSt} (Fu : Fun K x qual st f fd) (S : FnScope N ps (defScope st)) (hK : R.K = K) (hps : ps.length ≤ N.length)
    (body : ∀ (cdv : Value) (A : Around) (outer : List Env) (s : Shared) (H : Hp) (E : XK), Room k (A.deeper (envOfC qual (defScope st) s.heap.objs.size f cdv)) →
      Takes (cxOf (L2.CX P w) P w K mg base N qual (defScope st) f cdv A outer s H E) (fun cls d _ H => E cls d H) →
      PassesOwn (model P w) (cxOf (L2.CX P w) P w K mg base N qual (defScope st) f cdv A outer s H E).A (cxOf (L2.CX P w) P w K mg base N qual (defScope st) f cdv A outer s H E).env (cxOf (L2.CX P w) P w K mg base N qual (defScope st) f cdv A outer s H E).xe →
      JB (cxOf (L2.CX P w) P w K mg base N qual (defScope st) f cdv A outer s H E) R (fun cls d _ H => E cls d H) (defBody st) fb) :
    FnOk P w K mg base (L2.CX P w) (k + 1) f fd ps (spF R ps.length (runOf N.length fb)) := by
  refine fn_body Fu S (fun vs H Q E h => spF.len h) fun cdv A outer s H vs Q E hr h => ?_
  obtain ⟨G, hp, args, hh, r, hl, o⟩ := h
  refine ⟨_, body cdv A outer s H E hr (takes_of rfl rfl rfl rfl) (passes_of rfl) hK ⟨noLoc G, H, hp.length⟩, noLoc G, _, start_rel hh r (by rw [hl]; exact hps), ?_⟩
  unfold runOf at o
  cases q : fb ⟨env0 N.length args, hp, hp.length⟩ with
  | ok fl s' =>
    rw [q] at o
    cases fl with
    | next => exact fun G' σ' H' rel ev => o G' H' .non rel.hp rel.since.ofNoLoc rel.le (VR.mkNon (K := R.K) (G := G') (H := H'))
    | ret fr => exact fun G' σ' H' v rel k => o G' H' v rel.hp rel.since.ofNoLoc rel.le k
  | exc c xs s' => rw [q] at o; exact fun G' σ' H' cls d rel ev k => o G' H' cls d rel.hp rel.since.ofNoLoc rel.le k
  | bad => rw [q] at o; exact o.elim
end
end Mi
set_option Elab.async false
set_option linter.all false
set_option maxRecDepth 100000
set_option maxHeartbeats 4000000
namespace Mi
open PySem PySem.Spec PyProof.Rows L2
/-! enumerate, over a list, a tuple, a text, from a start -/
def ItEn (k0 : Int) (J0 : It) (stp : Nat → Hp → Prop) : It := ⟨J0.go, fun i H v H' => ∃ T x, v = .ref T ∧ H T = none ∧ H' = upd H T (.tup [.int (k0 + (i : Nat)), x]) ∧ J0.yld i H x H, stp⟩
/-- what is enumerated: its iterator at it -/
structure EnSrc (P : Program) (w : World) (K : PySem.W.Frag) (J0 : It) (stp : Nat → Hp → Prop) (tn0 : Nat → Heap → Prop) (it : Addr) : Prop where
  live : ∀ i h, tn0 i h → ∃ o, h.get? it = some o ∧ (∀ v, o.data ≠ .cell v) ∧ o.cls ≠ .type "enumerate"
  keep : ∀ i h h', tn0 i h → (∀ o, h.get? it = some o → h'.get? it = some o) → tn0 i h'
  draw : ∀ (X : Cx), X.prog = P → X.w = w → X.K = K → ∀ (pins : List (Addr × Obj)) (s : Shared) (σ : L2.St) (H : Hp) (i : Nat), Inv X pins σ H s → X.A.handled = none → tn0 i s.heap → J0.go i H →
    ∃ (fp : List Addr) (n : Nat) (Pd : Nat → Value → Prop) (Sd : Nat → Heap → Prop), Draws P w X.A.in1 it fp n Pd Sd ∧ Sd i s.heap ∧ i < n ∧ (∀ b ∈ fp, ∃ o, s.heap.get? b = some o ∧ o.cls ≠ .type "enumerate") ∧ (∀ h', Sd (i + 1) h' → tn0 (i + 1) h') ∧ ∀ u, Pd i u → ∃ x, RelV x u ∧ J0.yld i H x H
  fin : ∀ (X : Cx), X.prog = P → X.w = w → X.K = K → ∀ (pins : List (Addr × Obj)) (s : Shared) (σ : L2.St) (H : Hp) (i : Nat), Inv X pins σ H s → X.A.handled = none → tn0 i s.heap → stp i H →
    ∃ (fp : List Addr) (n : Nat) (Pd : Nat → Value → Prop) (Sd : Nat → Heap → Prop), Draws P w X.A.in1 it fp n Pd Sd ∧ Sd n s.heap
theorem turn_en {P : Program} {w : World} {K : PySem.W.Frag} {elts : List Expr} {kk : Nat} {tpos : Pos} {J0 : It} {stp : Nat → Hp → Prop} {tn0 : Nat → Heap → Prop} (k0 : Int) (e it : Addr) (S : EnSrc P w K J0 stp tn0 it) :
    Turn P w K (.Tuple elts kk tpos) (ItEn k0 J0 stp) [e, it] e (fun i h => (∃ old, IsEnum h e it (k0 + (i : Nat)) old) ∧ tn0 i h ∧ e ≠ it) where
  mem := by simp
  obj := fun i h st b hb => by
    obtain ⟨⟨old, he⟩, h0, _⟩ := st
    obtain ⟨o, ho, hd, _⟩ := S.live i h h0
    have e' : b = e ∨ b = it := by simpa using hb
    rcases e' with z | z
    · rw [z]; exact ⟨_, he, fun v q => nomatch q⟩
    · rw [z]; exact ⟨o, ho, hd⟩
  keep := fun i h h' st k => let ⟨⟨old, he⟩, hi, hne⟩ := st; ⟨⟨old, k e (by simp) _ he⟩, S.keep i h h' hi fun o q => k it (by simp) o q, hne⟩
  item := by
    intro X hP hw hK hc i pins s σ H E I hf st hg
    obtain ⟨⟨old, he⟩, hit, hne⟩ := st
    obtain ⟨fp, n, Pd, Sd, D, hst, hlt, hfp, back, val⟩ := S.draw X hP hw hK pins s σ H i I (I.ok.hd hc) hit hg
    subst hP hw hK
    have hef : e ∉ fp := fun hb => by
      obtain ⟨o, ho, hcl⟩ := hfp e hb
      rw [he] at ho; cases ho; exact hcl rfl
    have hel : e < s.heap.objs.size := Heap.lt_size he
    have hil : it < s.heap.objs.size := by obtain ⟨o, q, _⟩ := S.live _ _ hit; exact Heap.lt_size q
    refine wpAny_pyNext_enum_itemC D he hst hlt hne hef fun u h' tk hPx ho hst' hT hsz hk => ?_
    refine ⟨_, rfl, wpAny_letOwnedTupleGo_enum (s := { s with heap := h', toks := tk + 1 }) ho fun h'' he' sb => ?_⟩
    obtain ⟨x, ru, yx⟩ := val u hPx
    have hT2 : h''.get? s.heap.objs.size = some { cls := .type "tuple", data := .seq #[.int (k0 + (i : Nat)) tk, u] } := (sb.2 _ (Nat.ne_of_gt hel)).trans hT
    have new : ObjOk X.prog X.w (upd H s.heap.objs.size (.tup [.int (k0 + (i : Nat)), x])) h'' s.heap.objs.size (.tup [.int (k0 + (i : Nat)), x]) :=
      ⟨by show 2 ≤ sizeLine; decide, [.int (k0 + (i : Nat)) tk, u], .cons ⟨_, rfl⟩ (.cons ru .nil), ⟨_, hT2, rfl, _, rfl⟩⟩
    have I1 : Inv X pins σ (upd H s.heap.objs.size (.tup [.int (k0 + (i : Nat)), x])) { s with heap := h'', toks := tk + 1 } :=
      I.turnedNew (ch := [e, it]) (fun b ob hb q => (sb.2 b (fun z => hb (by simp [z]))).trans (hk b ob (fun z => hb (by simp [z])) (fun z => hb (by simp [z])) q)) hf (Nat.le_refl _) new
    refine ⟨.ref s.heap.objs.size, _, I1, rfl, ⟨_, x, rfl, I.hok.fresh (Nat.le_refl _), rfl, yx⟩, ⟨⟨u, ?_⟩, S.keep _ h' h'' (back _ hst') (fun o q => (sb.2 it (Ne.symm hne)).trans q), hne⟩, fun b hb => ?_⟩
    · have e1 : k0 + ((i + 1 : Nat) : Int) = k0 + (i : Int) + 1 := by omega
      rw [e1]; exact he'
    · have hb' : b < s.heap.objs.size := by
        have e' : b = e ∨ b = it := by simpa using hb
        rcases e' with z | z
        · rw [z]; exact hel
        · rw [z]; exact hil
      rw [upd_ne (Nat.ne_of_lt hb')]
      exact (hf b hb).1
  done := by
    intro X hP hw hK hc i pins s σ H E I hf st hg
    obtain ⟨⟨old, he⟩, hit, hne⟩ := st
    obtain ⟨fp, n, Pd, Sd, D, hst⟩ := S.fin X hP hw hK pins s σ H i I (I.ok.hd hc) hit hg
    subst hP hw hK
    obtain ⟨f0, f1, f2, f3, f4, f5⟩ := hf it (by simp)
    exact wpAny_pyNext_enum_endD D he hst fun h' eb => ⟨rfl, I.turned (t' := s.toks) (fun b o hb q => eb b o hb q) f0 f1 f3 f4 f5⟩
  self := fun A i s Q E st h => let ⟨⟨_, he⟩, _⟩ := st; wpAny_pyIter_enum he h
theorem isListCls {h : Heap} {a : Addr} {items : Array Value} (x : h.IsList a items) : ∃ o, h.get? a = some o ∧ o.cls = .type "list" := let ⟨o, ho, hc, _⟩ := x; ⟨o, ho, hc⟩
theorem apart_list {h : Heap} {it a : Addr} {i : Nat} {items : Array Value} (st : h.IsListIter it a i) (p : h.IsList a items) : a ≠ it := by
  obtain ⟨oa, hoa, hca⟩ := isListCls p
  obtain ⟨o, ho, hc, hd⟩ := st
  rintro rfl
  rw [hoa] at ho; cases ho; rw [hca] at hc; exact absurd hc (by decide)
def stL (K : PySem.W.Frag) (a : Addr) : Nat → Hp → Prop := fun i H => ∃ xs, SqL K H a xs ∧ xs.length = i
def stT (K : PySem.W.Frag) (a : Addr) : Nat → Hp → Prop := fun i H => ∃ xs, SqT K H a xs ∧ xs.length = i
theorem en_list {P : Program} {w : World} {K : PySem.W.Frag} (a it : Addr) : EnSrc P w K (Itl K a) (stL K a) (fun i h => h.IsListIter it a i) it where
  live := fun i h ⟨o, ho, hc, hd⟩ => ⟨o, ho, fun v q => (by rw [hd] at q; cases q), by rw [hc]; decide⟩
  keep := fun i h h' st k => st.at k
  draw := by
    intro X hP hw hK pins s σ H i I hh st ⟨xs, x, hq, hx⟩
    subst hP hw hK
    obtain ⟨its, rv, p, hz⟩ := I.list hq
    obtain ⟨u, hu, ru⟩ := rv.get hx
    obtain ⟨oa, hoa, hca⟩ := isListCls p.isList
    refine ⟨_, _, _, _, Draws.list (show X.A.in1.handled = none from hh) it a (apart_list st p.isList) its.toArray, ⟨st, p.isList⟩, ?_, fun b hb => ?_, fun h' k => k.1, fun v hv => ?_⟩
    · have := (List.getElem?_eq_some_iff.mp hu).1; simpa using this
    · have e' : b = it ∨ b = a := by simpa using hb
      rcases e' with z | z
      · subst z; obtain ⟨o, ho, hc, hd⟩ := st; exact ⟨o, ho, by rw [hc]; decide⟩
      · subst z; exact ⟨oa, hoa, by rw [hca]; decide⟩
    · have hv : its.toArray[i]? = some v := hv
      simp only [List.getElem?_toArray] at hv
      rw [hu] at hv; cases hv
      exact ⟨x, ru, rfl, fun ys hy => by rw [I.list_inj hy hq]; exact hx⟩
  fin := by
    intro X hP hw hK pins s σ H i I hh st ⟨xs, hq, hx⟩
    subst hP hw hK
    obtain ⟨its, rv, p, hz⟩ := I.list hq
    have hn : its.toArray.size = i := by rw [List.size_toArray, ← rv.length]; exact hx
    subst hn
    exact ⟨_, _, _, _, Draws.list (show X.A.in1.handled = none from hh) it a (apart_list st p.isList) its.toArray, st, p.isList⟩
theorem en_tup {P : Program} {w : World} {K : PySem.W.Frag} (a it : Addr) : EnSrc P w K (Itt K a) (stT K a) (fun i h => h.IsTupleIter it a i) it where
  live := fun i h ⟨o, ho, hc, hd⟩ => ⟨o, ho, fun v q => (by rw [hd] at q; cases q), by rw [hc]; decide⟩
  keep := fun i h h' ⟨o, ho, r⟩ k => ⟨o, k o ho, r⟩
  draw := by
    intro X hP hw hK pins s σ H i I hh st ⟨xs, x, hq, hx⟩
    subst hP hw hK
    obtain ⟨its, rv, p, hz⟩ := I.tuple hq
    obtain ⟨u, hu, ru⟩ := rv.get hx
    have p' : s.heap.IsTuple a its.toArray := p
    obtain ⟨oa, hoa, hca, _⟩ := id p
    have hne : a ≠ it := by
      obtain ⟨o, ho, hc, hd⟩ := st
      rintro rfl
      rw [hoa] at ho; cases ho; rw [hca] at hc; exact absurd hc (by decide)
    refine ⟨_, _, _, _, Draws.tuple (show X.A.in1.handled = none from hh) it a hne its.toArray, ⟨st, p'⟩, ?_, fun b hb => ?_, fun h' k => k.1, fun v hv => ?_⟩
    · have := (List.getElem?_eq_some_iff.mp hu).1; simpa using this
    · have e' : b = it ∨ b = a := by simpa using hb
      rcases e' with z | z
      · subst z; obtain ⟨o, ho, hc, hd⟩ := st; exact ⟨o, ho, by rw [hc]; decide⟩
      · subst z; exact ⟨oa, hoa, by rw [hca]; decide⟩
    · have hv : its.toArray[i]? = some v := hv
      simp only [List.getElem?_toArray] at hv
      rw [hu] at hv; cases hv
      exact ⟨x, ru, rfl, fun ys hy => by rw [I.tuple_inj hy hq]; exact hx⟩
  fin := by
    intro X hP hw hK pins s σ H i I hh st ⟨xs, hq, hx⟩
    subst hP hw hK
    obtain ⟨its, rv, p, hz⟩ := I.tuple hq
    have p' : s.heap.IsTuple a its.toArray := p
    obtain ⟨oa, hoa, hca, _⟩ := id p
    have hne : a ≠ it := by
      obtain ⟨o, ho, hc, hd⟩ := st
      rintro rfl
      rw [hoa] at ho; cases ho; rw [hca] at hc; exact absurd hc (by decide)
    have hn : its.toArray.size = i := by rw [List.size_toArray, ← rv.length]; exact hx
    subst hn
    exact ⟨_, _, _, _, Draws.tuple (show X.A.in1.handled = none from hh) it a hne its.toArray, st, p'⟩
theorem sit_ne (x : Str) : (Value.type (strIterType x) : Value) ≠ .type "enumerate" := by
  unfold strIterType; split <;> decide
theorem en_str {P : Program} {w : World} {K : PySem.W.Frag} (x : Str) (t : Tok) (it : Addr) : EnSrc P w K (Its x) (fun i _ => i = x.cps.size) (fun i h => h.IsStrIter it (strIterType x) x t i) it where
  live := fun i h ⟨o, ho, hc, hd⟩ => ⟨o, ho, fun v q => (by rw [hd] at q; cases q), by rw [hc]; exact sit_ne x⟩
  keep := fun i h h' ⟨o, ho, r⟩ k => ⟨o, k o ho, r⟩
  draw := by
    intro X hP hw hK pins s σ H i I hh st hi
    subst hP hw hK
    refine ⟨_, _, _, _, Draws.text (show X.A.in1.handled = none from hh) it x t, st, hi, fun b hb => ?_, fun h' k => k, fun v hv => ?_⟩
    · have z : b = it := by simpa using hb
      subst z; obtain ⟨o, ho, hc, hd⟩ := st; exact ⟨o, ho, by rw [hc]; exact sit_ne x⟩
    · obtain ⟨c, u, hc, rfl⟩ := hv
      exact ⟨.str ⟨#[c]⟩, ⟨u, rfl⟩, rfl, c, hc, rfl⟩
  fin := by
    intro X hP hw hK pins s σ H i I hh st hi
    subst hP hw hK hi
    exact ⟨_, _, _, _, Draws.text (show X.A.in1.handled = none from hh) it x t, st⟩
/-- enumerate(e), enumerate(e, start=k) -/
def iEn (K : PySem.W.Frag) (k0 : Int) : V → Hp → (It → Hp → Prop) → Prop := fun v H1 R =>
  (∃ a, v = .ref a ∧ (∃ xs, SqL K H1 a xs) ∧ R (ItEn k0 (Itl K a) (stL K a)) H1) ∨ (∃ a, v = .ref a ∧ (∃ xs, SqT K H1 a xs) ∧ R (ItEn k0 (Itt K a) (stT K a)) H1) ∨ ∃ x, v = .str x ∧ R (ItEn k0 (Its x) fun i _ => i = x.cps.size) H1
section
variable {X : Cx} {R : RC} {W : WX} {pos tpos p : Pos} {elts : List Expr} {kk : Nat} {e : Expr}
/-- from the call's value on -/
theorem en_go {pins : List (Addr × Obj)} {s1 : Shared} {σ : L2.St} {H1 : Hp} {Rr : It → Hp → Prop} {v : V} {u : Value} {k0 : Int} {trees : Sem Value} (I1 : Inv X pins σ H1 s1) (rv : RelV v u) (q : iEn X.K k0 v H1 Rr)
    (call : ∀ (o : Obj) (Hb : Heap → Prop) (Q : Value → Shared → Prop), Begins u o Hb → Hb s1.heap → (∀ h', IsEnum h' (s1.heap.objs.size + 1) s1.heap.objs.size k0 .none → h'.get? s1.heap.objs.size = some o → h'.objs.size = s1.heap.objs.size + 2 →
      (∀ b o, s1.heap.get? b = some o → h'.get? b = some o) → Q (.ref (s1.heap.objs.size + 1)) { s1 with heap := h' }) → wpAny (model X.prog X.w) X.A trees Q X.xe s1) :
    wpAny (model X.prog X.w) X.A trees (fun v s1 => wpAny (model X.prog X.w) X.A (pyIter v) (PIE X pins σ (.Tuple elts kk tpos) Rr) X.xe s1) X.xe s1 := by
  have fin : ∀ {J0 : It} {stp : Nat → Hp → Prop} {tn0 : Nat → Heap → Prop} {h' : Heap}, EnSrc X.prog X.w X.K J0 stp tn0 s1.heap.objs.size → IsEnum h' (s1.heap.objs.size + 1) s1.heap.objs.size k0 .none → tn0 0 h' →
      (∀ b o, s1.heap.get? b = some o → h'.get? b = some o) → Rr (ItEn k0 J0 stp) H1 → wpAny (model X.prog X.w) X.A (pyIter (.ref (s1.heap.objs.size + 1))) (PIE X pins σ (.Tuple elts kk tpos) Rr) X.xe { s1 with heap := h' } := fun {J0 stp tn0 h'} S he ht hk r => by
    refine wpAny_pyIter_enum he ?_
    have I2 : Inv X pins σ H1 { s1 with heap := h' } := I1.kept (t' := s1.toks) hk
    refine ⟨s1.heap.objs.size + 1, [s1.heap.objs.size + 1, s1.heap.objs.size], _, _, H1, rfl, I2, turn_en k0 (s1.heap.objs.size + 1) s1.heap.objs.size S, ⟨⟨.none, by simpa using he⟩, ht, Nat.succ_ne_self _⟩, fun b hb => ?_, r⟩
    have e' : b = s1.heap.objs.size + 1 ∨ b = s1.heap.objs.size := by simpa using hb
    have hle : s1.heap.objs.size ≤ b := by
      rcases e' with z | z
      · rw [z]; exact Nat.le_add_right _ _
      · rw [z]; exact Nat.le_refl _
    exact I1.fpOk hle (I1.hok.fresh hle)
  rcases q with ⟨a, e, ⟨xs, hq⟩, r⟩ | ⟨a, e, ⟨xs, hq⟩, r⟩ | ⟨x, e, r⟩
  · subst e
    cases rv
    obtain ⟨its, rv, p', hz⟩ := I1.list hq
    exact call _ _ _ (begins_list a its.toArray) p'.isList fun h' he ho hsz hk => fin (en_list a _) he ⟨_, ho, rfl, rfl⟩ hk r
  · subst e
    cases rv
    obtain ⟨its, rv, p', hz⟩ := I1.tuple hq
    exact call _ _ _ (begins_tuple a its.toArray) p' fun h' he ho hsz hk => fin (en_tup a _) he ⟨_, ho, rfl, rfl⟩ hk r
  · subst e
    obtain ⟨t, rfl⟩ := rv
    exact call _ _ _ (begins_text x t) trivial fun h' he ho hsz hk => fin (en_str x t _) he ⟨_, ho, rfl, rfl⟩ hk r
theorem meets_enumerate_new0 {v : Value} {o : Obj} {Hb : Heap → Prop} (B : Begins v o Hb) :
    Meets (Builtin.«enumerate.__new__» ⟨[.type "enumerate", v], []⟩) (fun _ R s => Hb s.heap ∧
      R (.ok (.ret (.ref (s.heap.push o).objs.size))) { s with heap := (s.heap.push o).push { cls := .type "enumerate", data := .fields #[.none, .bool false, .ref s.heap.objs.size, rawInt 0, .none, .none] } }) :=
  .of_wp fun prog w A R s h => by
    obtain ⟨hp, g, d, tk, os⟩ := s; obtain ⟨h1, h⟩ := h
    have hsub := sub_enumerate
    have q1 : ∀ {A' : Around} {E : Value → Shared → Prop} {Q : Value → Shared → Prop}, Q (.ref hp.objs.size) ⟨hp.push o, g, d, tk, os⟩ → wpAny (model prog w) A' (pyIter v) Q E ⟨hp, g, d, tk, os⟩ :=
      fun q => B.iter prog w _ _ ⟨hp, g, d, tk, os⟩ _ h1 q
    wp_walk using q1
    refine wpAny_stack_any fun st => wpAny_pure ?_
    split
    · rename_i c _ _ _ _ _
      cases (c == Value.type "enumerate")
      · wp_walk using q1
        exact ⟨_, rfl, h⟩
      · wp_walk using q1
        exact ⟨_, rfl, h⟩
    · wp_walk using q1
      exact ⟨_, rfl, h⟩
theorem enum_begins0 {prog : Program} {w : World} {A : Around} {E : Value → Shared → Prop} {s : Shared} {v : Value} {o : Obj} {Hb : Heap → Prop} {Q : Value → Shared → Prop} (B : Begins v o Hb) (h1 : Hb s.heap)
    (h : ∀ h', IsEnum h' (s.heap.objs.size + 1) s.heap.objs.size 0 .none → h'.get? s.heap.objs.size = some o → h'.objs.size = s.heap.objs.size + 2 →
      (∀ b o, s.heap.get? b = some o → h'.get? b = some o) → Q (.ref (s.heap.objs.size + 1)) { s with heap := h' }) :
    wpAny (model prog w) A (call (.type "enumerate") [v]) Q E s := by
  refine callType_new F.called_enumerate (by decide) (F.typeCall_enumerate_1 _) (F.newCall_enumerate_1 _) (fun obj => F.args_object_init_2 obj _) F.entry_enumerate_new
    (meets_enumerate_new0 B) ⟨h1, ?_⟩
  have hz : (s.heap.push o).objs.size = s.heap.objs.size + 1 := Heap.size_push ..
  show _ ∧ _
  rw [hz]
  have he : IsEnum ((s.heap.push o).push { cls := .type "enumerate", data := .fields #[.none, .bool false, .ref s.heap.objs.size, rawInt 0, .none, .none] }) (s.heap.objs.size + 1) s.heap.objs.size 0 .none := by
    have := Heap.get?_push_size (s.heap.push o) (o := { cls := .type "enumerate", data := .fields #[.none, .bool false, .ref s.heap.objs.size, rawInt 0, .none, .none] }) rfl
    rw [hz] at this; exact this
  refine ⟨⟨_, he, rfl⟩, h _ he (Heap.get?_push_of_some _ (Heap.get?_push_size _ B.free)) (by rw [Heap.size_push, hz]) fun b o x => Heap.get?_push_of_some _ (Heap.get?_push_of_some _ x)⟩
/-- a built-in class called with keywords -/
theorem callWith_typeKw {M : Model} {A : Around} {E : Value → Shared → Prop} {s : Shared} {env : Env} {pos : Pos} {T : String} {e : Expr} {rest : List Expr} {kws : List Keyword} {Q : Value → Shared → Prop} (hall : (backToKw pos (keywordEach kws env)).all (·.1.isSome) = true)
    (h : wpAny M A (spliced (backTo pos (starEach (e :: rest) env))) (fun vs s₁ => wpAny M A (evalAll ((backToKw pos (keywordEach kws env)).map (·.2)))
      (fun ks s₂ => wpAny M A (call (.type T) vs (((backToKw pos (keywordEach kws env)).filterMap (·.1)).zip ks)) Q E s₂) E s₁) E s)
    (hplain : ((backTo pos (starEach (e :: rest) env)).any (·.1) || (backToKw pos (keywordEach kws env)).any (·.1.isNone)) = false := by rfl) (he : starEach (e :: rest) env = (false, eval e env) :: starEach rest env := by rfl) :
    wpAny M A (callWith pos (.type T) [] (backTo pos (starEach (e :: rest) env)) (backToKw pos (keywordEach kws env))) Q E s := by
  unfold callWith
  refine wpAny_bind (wpAny_holding (wpAny_mono (evalArgs_kw2 (f := .type T) (Q := fun a s₁ => wpAny M A (call (.type T) ([] ++ a.pos) a.kw) Q E s₁) hall h he) (fun a s₁ h₁ => wpAny_bind (wpAny_standAt ?_)) fun _ _ x => x))
  simp only [hplain]
  refine wpAny_bind (wpAny_pure ?_)
  exact wpAny_bind (wpAny_mono h₁ (fun r s₂ hr => wpAny_bind (wpAny_holding (wpAny_point (wpAny_pure hr)))) fun _ _ x => x)
theorem pi_en0 {te : TE} (hg : Gl X "enumerate") (hm : X.mg "enumerate" = none) (he : PE X e te) (hs : starEach [e] X.env = [(false, eval e X.env)] := by rfl) :
    PI X (.Tuple elts kk tpos) (.Call (.Name "enumerate" p) [e] [] pos) (fun σ H Rr => te σ H fun x H1 => ∃ v, [x] = [v] ∧ iEn X.K 0 v H1 Rr) := by
  refine ⟨fun pins s σ H Rr I h => ?_⟩
  refine Call_ (ld_blt I hg hm boot_enumerate (PyProof.Rows.callWith_type1 (thn ((pa_cons he pa_nil hs).run pos pins s σ H (fun vs H1 => ∃ v, vs = [v] ∧ iEn X.K 0 v H1 Rr) I h) fun us s1 ⟨vs, H1, I1, r1, v, ev, q1⟩ => ?_) hs rfl))
  subst ev
  cases r1 with
  | cons r rr =>
    cases rr
    exact en_go I1 r q1 fun o Hb Q B h1 k => enum_begins0 B h1 k
theorem pi_enK {te : TE} {k0 : Int} {j : Nat} {kp kpos : Pos} (hg : Gl X "enumerate") (hm : X.mg "enumerate" = none) (he : PE X e te) (h0 : -(2 ^ 63) ≤ k0) (h1 : k0 < 2 ^ 63) (hs : starEach [e] X.env = [(false, eval e X.env)] := by rfl) :
    PI X (.Tuple elts kk tpos) (.Call (.Name "enumerate" p) [e] [⟨some (Str.ofString "start"), .Constant (.int k0) j kp, kpos⟩] pos) (fun σ H Rr => te σ H fun x H1 => ∃ v, [x] = [v] ∧ iEn X.K k0 v H1 Rr) := by
  refine ⟨fun pins s σ H Rr I h => ?_⟩
  refine wpAny_Call_Name_kw (ld_blt I hg hm boot_enumerate (callWith_typeKw rfl (thn ((pa_cons he pa_nil hs).run pos pins s σ H (fun vs H1 => ∃ v, vs = [v] ∧ iEn X.K k0 v H1 Rr) I h) fun us s1 ⟨vs, H1, I1, r1, v, ev, q1⟩ => ?_) (by rw [hs]; rfl) hs))
  subst ev
  cases r1 with
  | cons r rr =>
    cases rr
    refine thn ((pk_cons (X := X) (kws := []) (pe_int (X := X) (i := k0) (j := j) (pos := kp)) pk_nil).run pos pins s1 σ H1 (fun vs H2 => vs = [V.int k0] ∧ H2 = H1) I1 ⟨rfl, rfl⟩) fun ks s2 ⟨zs, H2, I2, r2, e2, eH⟩ => ?_
    subst e2 eH
    cases r2 with
    | cons rk rr =>
      cases rr
      obtain ⟨t, rfl⟩ := rk
      exact en_go I2 r q1 fun o Hb Q B hb k => enum_begins_start B hb h0 h1 k
/-! the mini walk -/
def enumItems (k0 : Int) (xs : List MV) : List MV := xs.zipIdx.map fun p => .tup [.int (k0 + (p.2 : Nat)), p.1]
def mEnum (k0 : Int) (f : ME) : MS → Out MI := fun s => (f s).bind fun r s1 => (itOf r s1).bind fun I s2 => .ok ⟨enumItems k0 I.items, I.chk⟩ s2
theorem enum_len {k0 : Int} {xs : List MV} : (enumItems k0 xs).length = xs.length := by simp [enumItems]
theorem enum_get {k0 : Int} {xs : List MV} {i : Nat} {x : MV} (h : (enumItems k0 xs)[i]? = some x) : ∃ y, xs[i]? = some y ∧ x = .tup [.int (k0 + (i : Nat)), y] := by
  simp only [enumItems, List.getElem?_map, Option.map_eq_some_iff, List.getElem?_zipIdx] at h
  obtain ⟨⟨y, j⟩, ⟨y', hy, e⟩, e2⟩ := h
  cases e
  exact ⟨_, hy, by rw [← e2]; simp⟩
theorem en_yield {K : PySem.W.Frag} {G : Gh} {H : Hp} {k0 : Int} {J0 : It} {stp : Nat → Hp → Prop} {xs : List MV} (hR : ∀ i x v, xs[i]? = some x → J0.yld i H v H → VR R.K G H x v) :
    ∀ i x v H3, (enumItems k0 xs)[i]? = some x → (ItEn k0 J0 stp).yld i H v H3 → Yields R G H x v H3 := fun i x v H3 hx y => by
  obtain ⟨T, u, rfl, hT, rfl, y⟩ := y
  obtain ⟨z, hz, rfl⟩ := enum_get hx
  exact .inr ⟨T, _, _, rfl, rfl, hT, rfl, .cons VR.mkInt (.cons (hR i z u hz y) .nil)⟩
theorem en_src {F : FI} {σ : L2.St} {G G1 : Gh} {H H1 : Hp} {s1 : MS} {r : RV} {v : V} {k0 : Int} {Rr : It → Hp → Prop} (hK : R.K = X.K) (w : Way R F σ G H G1 H1 s1) (rr : RR R σ H G1 H1 r v)
    (o : OutX rlI R F W σ G H ((itOf r s1).bind fun I s2 => .ok ⟨enumItems k0 I.items, I.chk⟩ s2) Rr) : iEn X.K k0 v H1 Rr := by
  obtain ⟨I, s2, G2, w2, sr, o2⟩ := src_way w rr o
  rcases sr with ⟨a, e, ⟨vs, k⟩, h⟩ | ⟨a, e, ⟨vs, k⟩, h⟩ | ⟨z, e, hz⟩
  · refine .inl ⟨a, e, ⟨vs, by rw [← hK]; exact k⟩, o2 _ _ _ w2.rel w2.evo ?_⟩
    intro F2 G3 H2 s3 σ2 rel ev ck
    obtain ⟨ws, k2, h2⟩ := h F2 G3 H2 s3 σ2 rel ev ck
    obtain ⟨a1, _, a3⟩ := itl_ok (R := R) (xs := I.items) hK (by rw [← hK]; exact k2) h2
    refine ⟨fun i hi => a1 i (by rwa [enum_len] at hi), ⟨ws, by rw [← hK]; exact k2, by rw [enum_len]; exact h2.length.symm⟩, en_yield (K := X.K) fun i x v hx y => ?_⟩
    rcases a3 i x v H2 hx y with ⟨_, q⟩ | ⟨T, _, _, _, _, hT, eT, _⟩
    · exact q
    · exfalso
      have q := congrFun eT T
      rw [upd_same, hT] at q; cases q
  · refine .inr (.inl ⟨a, e, ⟨vs, by rw [← hK]; exact k⟩, o2 _ _ _ w2.rel w2.evo ?_⟩)
    intro F2 G3 H2 s3 σ2 rel ev ck
    obtain ⟨ws, k2, h2⟩ := h F2 G3 H2 s3 σ2 rel ev ck
    obtain ⟨a1, _, a3⟩ := itt_ok (R := R) (xs := I.items) hK (by rw [← hK]; exact k2) h2
    refine ⟨fun i hi => a1 i (by rwa [enum_len] at hi), ⟨ws, by rw [← hK]; exact k2, by rw [enum_len]; exact h2.length.symm⟩, en_yield (K := X.K) fun i x v hx y => ?_⟩
    rcases a3 i x v H2 hx y with ⟨_, q⟩ | ⟨T, _, _, _, _, hT, eT, _⟩
    · exact q
    · exfalso
      have q := congrFun eT T
      rw [upd_same, hT] at q; cases q
  · refine .inr (.inr ⟨_, e, o2 _ _ _ w2.rel w2.evo ?_⟩)
    intro F2 G3 H2 s3 σ2 rel ev ck
    obtain ⟨a1, _, a3⟩ := str_its (R := R) (z := z) (G := G3) (H := H2)
    refine ⟨fun i hi => a1 i (by rw [enum_len] at hi; rw [← hz]; exact hi), by rw [enum_len, hz, List.length_map]; exact (List.size_toArray ..).symm, en_yield (K := X.K) fun i x v hx y => (a3 i x v H2 (by rw [← hz]; exact hx) y).2⟩
theorem ji_enum {f : ME} (hm : X.mg "enumerate" = none) (he : JE X R W e f) (hg : Gl X "enumerate" := by rfl) (hs : starEach [e] X.env = [(false, eval e X.env)] := by rfl) :
    JI X R W (.Tuple elts kk tpos) (.Call (.Name "enumerate" p) [e] [] pos) (mEnum 0 f) := fun hK F => PI.imp (pi_en0 hg hm (he hK F) hs) fun σ H Rr h =>
  (first (M := rlE) h).mono fun v H1 ⟨G, r, s1, G1, w, rr, o⟩ => ⟨v, rfl, en_src hK w rr o⟩
theorem ji_enumK {f : ME} {k0 : Int} {j : Nat} {kp kpos : Pos} (hm : X.mg "enumerate" = none) (he : JE X R W e f) (hg : Gl X "enumerate" := by rfl) (h0 : -(2 ^ 63) ≤ k0 := by decide) (h1 : k0 < 2 ^ 63 := by decide) (hs : starEach [e] X.env = [(false, eval e X.env)] := by rfl) :
    JI X R W (.Tuple elts kk tpos) (.Call (.Name "enumerate" p) [e] [⟨some (Str.ofString "start"), .Constant (.int k0) j kp, kpos⟩] pos) (mEnum k0 f) := fun hK F => PI.imp (pi_enK hg hm (he hK F) h0 h1 hs) fun σ H Rr h =>
  (first (M := rlE) h).mono fun v H1 ⟨G, r, s1, G1, w, rr, o⟩ => ⟨v, rfl, en_src hK w rr o⟩
end
end Mi
set_option Elab.async false
set_option linter.all false
set_option maxRecDepth 100000
set_option maxHeartbeats 4000000
namespace Mi
open PySem PySem.Spec PyProof.Rows L2
theorem PO.imp {X : Cx} {e : Option Expr} {t t' : TO} (h : PO X e t) (k : ∀ σ H Q, t' σ H Q → t σ H Q) : PO X e t' := ⟨fun pins s σ H Q I q => h.run pins s σ H Q I (k σ H Q q)⟩
section
variable {X : Cx} {R : RC} {W : WX} {F : FI} {σ : L2.St} {G G1 : Gh} {H H1 : Hp} {s s1 : MS} {pos : Pos}
/-! slices -/
def rlO : RL (Option Int) (Option Int) := ⟨fun _ _ _ _ _ r v => v = r, fun _ h => h, fun _ h => h⟩
def JO (X : Cx) (R : RC) (W : WX) (e : Option Expr) (f : MS → Out (Option Int)) : Prop := R.K = X.K → ∀ F, PO X e (tX rlO R F W f)
theorem jo_none : JO X R W none (fun s => .ok none s) := fun _ F => PO.imp po_none fun σ H Q ⟨G, s, rel, h⟩ => h G H _ rel .refl rfl
def mPart (f : ME) : MS → Out (Option Int) := fun s => (f s).bind fun r s1 => match r with | .v (.int i) => .ok (some i) s1 | _ => .bad
theorem jo_some {e : Expr} {f : ME} (he : JE X R W e f) : JO X R W (some e) (mPart f) := fun hK F => PO.imp (po_some (he hK F)) fun σ H Q h =>
  (first (M := rlE) h).mono fun y H1 ⟨G, r, s1, G1, w, rr, o⟩ => by
    have rr : RR R σ H G1 H1 r y := rr
    split at o
    · cases RR.int rr; exact ⟨_, rfl, o _ _ _ w.rel w.evo rfl⟩
    · exact o.elim
def cutM {α : Type} (xs : List α) (lo hi : Option Int) : List α := (xs.drop (HT.sIx xs.length 0 lo)).take (HT.sIx xs.length xs.length hi - HT.sIx xs.length 0 lo)
def opSlice (r : RV) (lo hi : Option Int) (s : MS) : Out RV := match r with
  | .v (.str z) => if z.length ≤ sizeLine then .ok (.v (.str (cutM z lo hi))) s else .bad
  | .v (.tup xs) => .ok (.v (.tup (cutM xs lo hi))) s
  | r => match lstOf s r with | some xs => .ok (.own (.lst (cutM xs lo hi))) s | none => .bad
theorem cut_whole {α : Type} {xs : List α} {lo hi : Option Int} (h : HT.sIx xs.length 0 lo = 0 ∧ HT.sIx xs.length xs.length hi = xs.length) : cutM xs lo hi = xs := by
  unfold cutM; rw [h.1, h.2]; simp
def mSlice (fa : ME) (fl fh : MS → Out (Option Int)) : ME := fun s => (fa s).bind fun r s1 => (fl s1).bind fun lo s2 => (fh s2).bind fun hi s3 => opSlice r lo hi s3
theorem VRs.cut {K : PySem.W.Frag} {G : Gh} {H : Hp} {xs : List MV} {vs : List V} (h : VRs K G H xs vs) (lo hi : Option Int) : VRs K G H (cutM xs lo hi) (cutV vs lo hi) := by
  unfold cutM cutV
  rw [← h.length]
  exact (h.drop _).take _
theorem je_slice {a : Expr} {lo hi : Option Expr} {p2 : Pos} {fa : ME} {fl fh : MS → Out (Option Int)} (ha : JE X R W a fa) (hl : JO X R W lo fl) (hu : JO X R W hi fh) : JE X R W (.Subscript a (.Slice lo hi none p2) pos) (mSlice fa fl fh) := fun hK F =>
  PE.imp (pe_slice ((sl_list.or sl_str).or sl_tupA) (ha hK F) (hl hK F) (hu hK F)) fun σ H Q h => by
    refine (first (M := rlE) h).mono fun x H1 ⟨G, r, s1, G1, w, rr, o⟩ => ?_
    refine (next (M := rlO) w o).mono fun l H2 ⟨l', s2, G2, w2, e12, el, o2⟩ => ?_
    refine (next (M := rlO) w2 o2).mono fun u H3 ⟨u', s3, G3, w3, e23, eu, o3⟩ => ?_
    have el : l = l' := el
    have eu : u = u' := eu
    subst el eu
    have rr : RR R σ H G1 H1 r x := rr
    have rr3 : RR R σ H G3 H3 r x := (rr.mono e12).mono e23
    unfold opSlice at o3
    split at o3
    · cases RR.str rr3
      split at o3
      · rename_i z hz
        refine .inl (.inr ⟨_, rfl, by simpa [PySem.Str.length] using hz, finS w3 o3 ?_⟩)
        unfold cutS cutM
        simp [PySem.Str.length]
      · exact o3.elim
    · obtain ⟨a, vs, rfl, k, q⟩ := RR.tup rr3
      refine .inr ⟨a, vs, rfl, by rw [← hK]; exact k, fun e => ?_, fun _ => newTup w3 (q.cut l u) o3⟩
      rw [← q.length] at e
      rw [cut_whole e] at o3
      exact finV w3 o3 rr3
    · split at o3
      · rename_i xs hx
        obtain ⟨a, vs, rfl, k, q⟩ := lst_ok w3.rel rr3 hx
        exact .inl (.inl ⟨a, vs, rfl, by rw [← hK]; exact k, newLst w3 (q.cut l u) o3⟩)
      · exact o3.elim
/-! [::-1] -/
theorem rev_pick (z : List Nat) : ((Builtin.Str.strSliceIndices none none (-1) ({cps := z.toArray} : Str).length).filterMap (({cps := z.toArray} : Str).cps[·]?)) = z.reverse := by
  rw [picked_rev, filterMap_get, List.map_map]
  · apply List.ext_getElem
    · simp [PySem.Str.length]
    · intro i h1 h2
      have hl : i < z.length := by simpa using h2
      simp only [List.getElem_map, List.getElem_range, Function.comp, List.getElem_reverse, PySem.Str.length, List.size_toArray]
      simp [Array.getD]
      rw [dif_pos (by omega)]
  · intro i hi
    obtain ⟨k, hk, rfl⟩ := List.mem_map.mp hi
    have hk' := List.mem_range.mp hk
    show _ < ({cps := z.toArray} : Str).length
    omega
def tRevA (K : PySem.W.Frag) (te : TE) : TE := fun σ H Q => te σ H fun x H1 => (∃ a xs, x = .ref a ∧ SqL K H1 a xs ∧ ∀ p, H1 p = none → Q (.ref p) (upd H1 p (.lst xs.reverse))) ∨ ∃ z : List Nat, x = .str ⟨z.toArray⟩ ∧ z.length ≤ sizeLine ∧ Q (.str ⟨z.reverse.toArray⟩) H1
theorem pe_revA {e : Expr} {te : TE} {k : Nat} {p1 p2 p3 pos : Pos} (he : PE X e te) : PE X (.Subscript e (.Slice none none (some (.UnaryOp .USub (.Constant (.int 1) k p1) p2)) p3) pos) (tRevA X.K te) := by
  refine ⟨fun pins s σ H Q I h => ?_⟩
  refine Subscript_ (thn (he.run pins s σ H _ I h) fun v s1 ⟨x, H1, I1, r1, q1⟩ => ?_)
  have hst : PO X (some (.UnaryOp .USub (.Constant (.int 1) k p1) p2)) (tPart (tUn (rU fun i => .int (-i)) (tC (.int 1)))) := po_some (pe_un un_neg pe_int)
  refine wpAny_Slice (thn (po_none.run pins s1 σ H1 (fun o H2 => o = none ∧ H2 = H1) I1 ⟨rfl, rfl⟩) fun vl s2 ⟨l, H2, I2, pl, el, e2⟩ => ?_)
  subst el e2
  refine thn (po_none.run pins s2 σ H2 (fun o H3 => o = none ∧ H3 = H2) I2 ⟨rfl, rfl⟩) fun vu s3 ⟨u, H3, I3, pu, eu, e3⟩ => ?_
  subst eu e3
  refine thn (hst.run pins s3 σ H3 (fun o H4 => o = some (-1) ∧ H4 = H3) I3 ⟨1, rfl, -1, rfl, rfl, rfl⟩) fun vs s4 ⟨o, H4, I4, ps, eo, e4⟩ => ?_
  subst eo e4
  have I5 : Inv X pins σ H4 { s4 with heap := s4.heap.push { cls := .type "slice", data := .fields #[vl, vu, vs] } } := I4.kept (t' := s4.toks) fun b ob q => Heap.get?_push_of_some _ q
  rcases q1 with ⟨a, xs, ex, hx, q⟩ | ⟨z, ex, hz, q⟩
  · subst ex
    cases r1
    obtain ⟨its, r, ht, hz⟩ := I5.list hx
    have hlen := r.length
    show wpAny (model X.prog X.w) X.A (subscriptTail e (.Slice none none (some (.UnaryOp .USub (.Constant (.int 1) k p1) p2)) p3) (.ref a) (.ref s4.heap.objs.size)) (EP X pins σ Q) X.xe { s4 with heap := s4.heap.push { cls := .type "slice", data := .fields #[vl, vu, vs] } }
    refine tail_any (ops := [.ref a, .ref s4.heap.objs.size]) ht.isList.typeIs (PySem.slot_list_getitem.lookup) ?_ (by with_unfolding_all rfl)
    refine wpAny_getItem_list_slice ht.isList (Heap.IsSliceOf.new _ vl vu vs) pl pu ps (by decide) ?_ (by rw [List.size_toArray]; omega)
    rw [PySem.W.krv_pick]
    refine ⟨.ref _, _, I5.laid (t' := s4.toks) (o := .lst xs.reverse) (fun b ob q => Heap.get?_push_of_some _ q) (Nat.le_refl _) ?_, rfl, q _ (I5.hok.fresh (Nat.le_refl _))⟩
    exact ⟨by rw [List.length_reverse]; exact hz, _, 0, r.reverse, Heap.get?_push_size _ rfl⟩
  · subst ex
    obtain ⟨t, rfl⟩ := r1
    obtain ⟨l, rfl, el⟩ := IsPart.raw pl
    obtain ⟨u, rfl, eu⟩ := IsPart.raw pu
    obtain ⟨w, rfl, ew⟩ := IsPart.raw ps
    have hl0 : l = none := by cases l with | none => rfl | some q => cases el
    have hu0 : u = none := by cases u with | none => rfl | some q => cases eu
    subst hl0 hu0
    cases w with
    | none => cases ew
    | some w =>
      obtain ⟨w0, tw⟩ := w
      cases ew
      show wpAny (model X.prog X.w) X.A (subscriptTail e (.Slice none none (some (.UnaryOp .USub (.Constant (.int 1) k p1) p2)) p3) (.str ⟨z.toArray⟩ t) (.ref s4.heap.objs.size)) (EP X pins σ Q) X.xe { s4 with heap := s4.heap.push { cls := .type "slice", data := .fields #[_, _, _] } }
      refine tail_any (ops := [.str ⟨z.toArray⟩ t, .ref s4.heap.objs.size]) (typeIs_str _ _ _) F.slot_str_getitem.lookup ?_ (by with_unfolding_all rfl)
      refine wpAny_getItem_str_slice (l := none) (u := none) (st := some (-1, tw)) ⟨_, Heap.get?_push_size _ rfl, rfl, rfl⟩ (by rfl) ?_
      unfold sliceMade
      rw [if_neg (by simp)]
      have e2 : slicePicked ⟨z.toArray⟩ none none (some (-1, tw)) = Builtin.Str.strSliceIndices none none (-1) ({cps := z.toArray} : Str).length := rfl
      rw [e2, rev_pick]
      refine ⟨by simpa [PySem.Str.length] using hz, .str _, _, I5.tok _, ⟨_, rfl⟩, q⟩
def opRev (r : RV) (s : MS) : Out RV := match r with
  | .v (.str z) => if z.length ≤ sizeLine then .ok (.v (.str z.reverse)) s else .bad
  | r => match lstOf s r with | some xs => .ok (.own (.lst xs.reverse)) s | none => .bad
def mRev (fa : ME) : ME := fun s => (fa s).bind opRev
theorem je_rev {a : Expr} {fa : ME} {k : Nat} {p1 p2 p3 : Pos} (ha : JE X R W a fa) : JE X R W (.Subscript a (.Slice none none (some (.UnaryOp .USub (.Constant (.int 1) k p1) p2)) p3) pos) (mRev fa) := fun hK F =>
  PE.imp (pe_revA (ha hK F)) fun σ H Q h => by
    refine (first (M := rlE) h).mono fun x H1 ⟨G, r, s1, G1, w, rr, o⟩ => ?_
    have rr : RR R σ H G1 H1 r x := rr
    unfold opRev at o
    split at o
    · cases RR.str rr
      split at o
      · rename_i z hz
        exact .inr ⟨_, rfl, hz, finS w o rfl⟩
      · exact o.elim
    · split at o
      · rename_i xs hx
        obtain ⟨a, vs, rfl, k, q⟩ := lst_ok w.rel rr hx
        exact .inl ⟨a, vs, rfl, by rw [← hK]; exact k, newLst w q.reverse o⟩
      · exact o.elim
/-! methods of texts -/
def PrimS (R : RC) (r : V → List V → Hp → VK → Prop) (p : List Nat → List RV → MS → Out RV) : Prop := ∀ {F : FI} {W : WX} {σ : L2.St} {G : Gh} {H : Hp} {G2 : Gh} {H2 : Hp} {s2 : MS} {z : List Nat} {rs : List RV} {vs : List V} {Q : VK},
  Way R F σ G H G2 H2 s2 → RRs R σ H G2 H2 rs vs → OutX rlE R F W σ G H (p z rs s2) Q → r (.str ⟨z.toArray⟩) vs H2 Q
def mSM (p : List Nat → List RV → MS → Out RV) (fo : ME) (fa : MS → Out (List RV)) : ME := fun s => (fo s).bind fun r s1 => match r with
  | .v (.str z) => (fa s1).bind fun rs s2 => p z rs s2
  | _ => .bad
theorem je_sm {o e : Expr} {es : List Expr} {name : Str} {id : String} {apos cpos : Pos} {r : V → List V → Hp → VK → Prop} {p : List Nat → List RV → MS → Out RV} {fo : ME} {fa : MS → Out (List RV)} (slot : Slot "str" name id) (hty : typeOf (.builtin id) = pure (.type "method_descriptor")) (hm : MtR X id r) (pr : R.K = X.K → PrimS R r p) (ho : JE X R W o fo) (ha : JA X R W (e :: es) fa)
    (hbase : attributeBase o name X.env (eval o X.env) = eval o X.env := by rfl)
    (hfew : ((backTo cpos (starEach (e :: es) X.env)).all (fun x => !x.1) && (backToKw cpos (keywordEach [] X.env)).all (fun x => x.1.isSome)
      && decide ((e :: es).length + ([] : List Keyword).length + (if ([] : List Keyword).isEmpty then 0 else 1) < 30)) = true := by rfl)
    (hline : (apos.endLine == cpos.line) = true := by rfl) (hs : starEach (e :: es) X.env = (false, eval e X.env) :: starEach es X.env := by rfl) (hplain : (backTo cpos (starEach es X.env)).any (·.1) = false := by rfl) :
    JE X R W (.Call (.Attribute o name apos) (e :: es) [] cpos) (mSM p fo fa) := fun hK F =>
  PE.imp (pe_bm PySem.F.plainAttrs_str slot hty hm (ho hK F) (ha hK F) hbase hfew hline hs hplain) fun σ H Q h => by
    refine (first (M := rlE) h).mono fun x H1 ⟨G, r, s1, G1, w, rr, o⟩ => ?_
    have rr : RR R σ H G1 H1 r x := rr
    split at o
    · cases RR.str rr
      refine ⟨rfl, ?_⟩
      refine (next (M := rlR) w o).mono fun vs H2 ⟨rs, s2, G2, w2, e12, rr2, o2⟩ => ?_
      exact pr hK w2 rr2 o2
    · exact o.elim
def joinM (a : List Nat) : List (List Nat) → List Nat
  | [] => []
  | [x] => x
  | x :: y :: r => x ++ a ++ joinM a (y :: r)
theorem fold_cps (a : List Nat) : ∀ (l : List (List Nat)) (i : Array Nat), (List.foldl (fun acc (p : Str) => acc ++ (a.toArray ++ p.cps)) i (l.map fun s => (⟨s.toArray⟩ : Str))).toList = i.toList ++ l.flatMap (a ++ ·)
  | [], i => by simp
  | x :: l, i => by rw [List.map_cons, List.foldl_cons, fold_cps a l]; simp
theorem join_cps (a : List Nat) : ∀ ys : List (List Nat), (Txt.join ⟨a.toArray⟩ (ys.map fun s => (⟨s.toArray⟩ : Str))).cps.toList = joinM a ys
  | [] => rfl
  | [x] => rfl
  | x :: y :: r => by
    have ih := join_cps a (y :: r)
    simp only [joinM, ← ih]
    simp [Txt.join, Builtin.Str.glued, fold_cps]
def pJoin (z : List Nat) (rs : List RV) (s : MS) : Out RV := match rs with
  | [r] => match (seqOf s r).bind strsOf with
    | some ys => if (ys.map (·.length)).sum + ys.length * z.length ≤ 16777216 then .ok (.v (.str (joinM z ys))) s else .bad
    | none => .bad
  | _ => .bad
theorem pr_join : PrimS R (fun x xs H Q => ∃ a p, ∃ ys : List Str, x = .str a ∧ xs = [.ref p] ∧ (SqL R.K H p (ys.map V.str) ∨ SqT R.K H p (ys.map V.str)) ∧
    (ys.map (·.length)).sum + ys.length * a.length ≤ 16777216 ∧ Q (.str (Txt.join a ys)) H) pJoin := fun {F W σ G H G2 H2 s2 z rs vs Q} w rr o => by
  unfold pJoin at o
  split at o
  · obtain ⟨v, t, rfl, r1, rfl⟩ := rr
    split at o
    · rename_i ys e
      split at o
      · rename_i hz
        obtain ⟨xs, e1, e2⟩ := Option.bind_eq_some_iff.mp e
        obtain ⟨a, ws, rfl, k, h⟩ := seq_ok w.rel r1 e1
        rw [strs_ok h e2] at k
        refine ⟨_, a, _, rfl, rfl, k, ?_, finS w o (join_cps z ys)⟩
        simpa [PySem.Str.length, Function.comp_def] using hz
      · exact o.elim
    · exact o.elim
  · exact o.elim
def pIndexS (z : List Nat) (rs : List RV) (s : MS) : Out RV := match rs with
  | [.v (.str y)] => match Builtin.Str.occurrences ⟨z.toArray⟩ ⟨y.toArray⟩ 0 z.length 1 with
    | i :: _ => .ok (.v (.int i)) s
    | [] => .bad
  | _ => .bad
theorem pr_sindex : PrimS R (fun x xs H Q => ∃ a b i rest, x = .str a ∧ xs = [.str b] ∧ Builtin.Str.occurrences a b 0 a.length 1 = i :: rest ∧ Q (.int (i : Nat)) H) pIndexS := fun {F W σ G H G2 H2 s2 z rs vs Q} w rr o => by
  unfold pIndexS at o
  split at o
  · obtain ⟨v, t, rfl, r1, rfl⟩ := rr
    cases RR.str r1
    split at o
    · rename_i i rest e
      exact ⟨_, _, i, rest, rfl, rfl, by simpa [PySem.Str.length] using e, finI w o⟩
    · exact o.elim
  · exact o.elim
/-! globals -/
theorem je_glob {x : Str} {v : V} {u : Value} {y : MV} (hm : X.mg x = some u) (r : RelV v u) (vr : ∀ G H, VR R.K G H y v) (hg : Gl X x := by rfl) (hd : (x == ("__debug__" : Str)) = false := by decide) : JE X R W (.Name x pos) (mC y) := fun _ F =>
  PE.imp (pe_glob hg hm r hd) fun σ H Q ⟨G, s, rel, h⟩ => h G H _ rel .refl (vr G H)
/-! repr -/
theorem call_repr_bl : CallR X (.builtin "repr") (fun xs H Q => ∃ b, xs = [.bl b] ∧ Q (.str (if b then "True" else "False")) H) := by
  intro pins s σ H xs us Q I r h
  obtain ⟨i, rfl, q⟩ := h
  cases r with
  | cons r1 r2 =>
    cases r2
    cases r1
    exact PySem.P.repr_of_bool ⟨.str _, H, I.tok _, ⟨_, rfl⟩, q⟩
def pReprB (rs : List RV) (s : MS) : Out RV := match rs with
  | [.v (.bl b)] => .ok (.v (.str (if b then [84, 114, 117, 101] else [70, 97, 108, 115, 101]))) s
  | _ => .bad
theorem pr_reprB : PrimC R (fun xs H Q => ∃ b, xs = [.bl b] ∧ Q (.str (if b then "True" else "False")) H) pReprB := fun {F W σ G H G2 H2 s2 rs vs Q} w rr o => by
  unfold pReprB at o
  split at o
  · obtain ⟨v, t, rfl, r1, rfl⟩ := rr
    cases RR.bl r1
    rename_i b
    refine ⟨_, rfl, finS w o ?_⟩
    cases b <;> rfl
  · exact o.elim
/-! a[i] = e -/
theorem nextS {γ δ : Type} {M : RL γ δ} {fb : MS → Out γ} {k : γ → MS → Out Fl} {D : Ends} (w : Way R F σ G H G1 H1 s1) (h : OutS R F W G H ((fb s1).bind k) D) :
    tX M R F W fb σ H1 (fun y H2 => ∃ r s2 G2, Way R F σ G H G2 H2 s2 ∧ Evo EvT G1 H1 G2 H2 ∧ M.rel R σ H G2 H2 r y ∧ OutS R F W G H (k r s2) D) := by
  refine ⟨G1, s1, w.rel, ?_⟩
  cases q : fb s1 with
  | ok r s2 =>
    rw [q] at h
    intro G' H' v rel' ev rr
    exact ⟨r, s2, G', ⟨rel', w.evo.trans ev, w.st⟩, ev, M.back w.evo rr, h⟩
  | exc c xs s2 => rw [q] at h; exact fun G' H' cls d rel' ev e => h G' σ H' cls d rel' (w.evS.trans (ev.weak fun _ _ => trivial)) e
  | bad => rw [q] at h; exact h
def setIx (r : RV) (i : RV) (x : MV) (s : MS) : Out Fl := match i with
  | .v (.int k) => match place s r with
    | some (.lst xs) => match ixN xs.length k with
      | some j => .ok .next (putC s r (.lst (xs.set j x)))
      | none => .bad
    | _ => .bad
  | _ => .bad
def mSetIx (fe fo fi : ME) : MSt := fun s => (mSh fe s).bind fun x s1 => (fo s1).bind fun r s2 => (fi s2).bind fun i s3 => setIx r i x s3
theorem js_setix {o i e : Expr} {fe fo fi : ME} {tpos : Pos} (he : JE X R W e fe) (ho : JE X R W o fo) (hi : JE X R W i fi) (hs : swapsWithSole [.Subscript o i tpos] e pos.line X.env = pure false := by rfl) (hw : swappedStores [.Subscript o i tpos] e X.env = pure none := by rfl)
    (h1 : (assignEach [.Subscript o i tpos] X.env).map (·.2) = [assign (.Subscript o i tpos) X.env] := by rfl)
    (ha : ∀ v, assign (.Subscript o i tpos) X.env v = (do
      let ov ← holding [v] (eval o X.env)
      let iv ← holding [v, ov] (eval i X.env)
      standAt tpos
      holding [v, ov, iv] (setItem ov iv v)
      release [v, ov, iv] []) := by intro _; rfl) : JS X R W (.Assign [.Subscript o i tpos] e pos) (mSetIx fe fo fi) := fun hK F =>
  PS.imp (ps_asg (jv_of he hK F) (pg_sub (ho hK F) (hi hK F) set_list ha) hs hw h1) fun D σ H h => by
    refine (firstS (M := rlV) h).mono fun v H1 ⟨G, x, s1, G1, w, vx, o⟩ => ?_
    refine (nextS (M := rlE) w o).mono fun ov H2 ⟨r, s2, G2, w2, e12, rr, o2⟩ => ?_
    refine (nextS (M := rlE) w2 o2).mono fun iv H3 ⟨ir, s3, G3, w3, e23, ri, o3⟩ => ?_
    have rr : RR R σ H G2 H2 r ov := rr
    have ri : RR R σ H G3 H3 ir iv := ri
    have vx : VR R.K G1 H1 x v := vx
    have rr3 := rr.mono e23
    have vx3 := VR.mono (e12.trans e23).mo _ _ vx
    unfold setIx at o3
    split at o3
    · cases RR.int ri
      split at o3
      · rename_i xs hp
        split at o3
        · rename_i j hj
          obtain ⟨a, rfl, ⟨vs, ha, hvs⟩, ⟨q, gq, nf⟩, put⟩ := put_ok w3.rel rr3 hp
          refine ⟨a, vs, _, j, rfl, rfl, ha, by rw [← hvs.length]; exact hj, ?_⟩
          have gn : G3 a ≠ some .frz := fun z => nf (by rw [z] at gq; exact (Option.some.inj gq).symm)
          have mu : Mo G3 H3 G3 (upd H3 a (.lst (vs.set j v))) := Mo.upd gn
          have hc : CR R.K G3 (upd H3 a (.lst (vs.set j v))) (.lst (xs.set j x)) a := ⟨_, upd_same, VRs.set (VR.mono mu _ _ vx3) j (VRs.mono mu _ _ hvs)⟩
          exact o3 _ _ _ (put _ hc) (w3.evS.trans (Evo.updRole gn (by rw [gq]; simp) (fun x u z => by rw [ha] at z; cases z)))
        · exact o3.elim
      · exact o3.elim
    · exact o3.elim
/-! targets taken apart -/
def mAsg (f : ME) (ft : MG) : MSt := fun s => (mSh f s).bind fun x s1 => match ft x s1 with | some s2 => .ok .next s2 | none => .bad
theorem js_asg {tg e : Expr} {f : ME} {ws : List Nat} {ft : MG} (he : JE X R W e f) (hg : JG X R tg ws ft) (hs : swapsWithSole [tg] e pos.line X.env = pure false := by rfl) (hw : swappedStores [tg] e X.env = pure none := by rfl)
    (h1 : (assignEach [tg] X.env).map (·.2) = [assign tg X.env] := by rfl) : JS X R W (.Assign [tg] e pos) (mAsg f ft) := fun hK F =>
  PS.imp (ps_asg (jv_of he hK F) (hg hK F) hs hw h1) fun D σ H h => by
    refine (firstS (M := rlV) h).mono fun v H1 ⟨G, x, s1, G1, w, vx, o⟩ => ?_
    refine ⟨G1, s1, x, w.rel, vx, ?_⟩
    split at o
    · rename_i s2 e
      first | rw [e] | skip
      exact fun σ' rel' _ => o _ _ _ rel' w.evS
    · exact o.elim
/-- a, b = x, y -/
def mPar (i j : Nat) (fa : MS → Out (List MV)) : MSt := fun s => (fa s).bind fun xs s1 => match xs with
  | [x, y] => if i < s1.env.length ∧ j < s1.env.length then .ok .next { s1 with env := (s1.env.set i (some (.v x))).set j (some (.v y)) } else .bad
  | _ => .bad
/-- name targets stored in order -/
def putSlots : List (Nat × MV) → MS → Out Fl
  | [], s => .ok .next s
  | (i, x) :: r, s => if i < s.env.length then putSlots r { s with env := s.env.set i (some (.v x)) } else .bad
theorem js_par {i j : Nat} {x y : Str} {a b : Expr} {fa : MS → Out (List MV)} {px py pt : Pos} {kt k2 pt2} (hc : X.calm = true) (hN : X.N.Nodup) (hi : X.N[i]? = some x) (hj : X.N[j]? = some y) (hij : i ≠ j) (ha : JAs X R W [a, b] fa)
    (hx : X.env.scope.names.lookup x = some .local := by rfl) (hy : X.env.scope.names.lookup y = some .local := by rfl)
    (hw : swappedStores [.Tuple [.Name x px, .Name y py] kt pt] (.Tuple [a, b] k2 pt2) X.env = pure (some [x, y]) := by rfl)
    (hs : swapsWithSole [.Tuple [.Name x px, .Name y py] kt pt] (.Tuple [a, b] k2 pt2) pos.line X.env = pure false := by rfl) :
    JS X R W (.Assign [.Tuple [.Name x px, .Name y py] kt pt] (.Tuple [a, b] k2 pt2) pos) (mPar i j fa) := fun hK F =>
  PS.imp (ps_par hc hN hi hj hij hx hy (ha hK F) hw hs) fun D σ H h => by
    refine (firstS (M := rlS) h).mono fun vs H1 ⟨G, xs, s1, G1, w, vx, o⟩ => ?_
    have vx : VRs R.K G1 H1 xs vs := vx
    split at o
    · rename_i rr0 x1 y1
      obtain ⟨v, r, rfl, p, q⟩ := vx.inv
      obtain ⟨u, r2, rfl, p2, q2⟩ := q.inv
      unfold VRs at q2
      subst q2
      split at o
      · rename_i hij
        refine ⟨v, u, rfl, ?_⟩
        have r1 := w.rel.setSlot (sv := some (.v rr0)) hij.1 fun z e => by cases e; exact p
        exact o _ _ _ (r1.setSlot (sv := some (.v x1)) (by simpa using hij.2) fun z e => by cases e; exact p2) w.evS
      · exact o.elim
    · exact o.elim
end
end Mi
set_option Elab.async false
set_option linter.all false
set_option maxRecDepth 100000
set_option maxHeartbeats 4000000
namespace Mi
open PySem PySem.Spec PyProof.Rows L2
def permL {α : Type} (idx : List Nat) (l : List α) : List α := idx.filterMap fun i => l[i]?
theorem VRs.none {K : PySem.W.Frag} {G : Gh} {H : Hp} {xs : List MV} {vs : List V} {i : Nat} (h : VRs K G H xs vs) (e : xs[i]? = none) : vs[i]? = none := by
  have := h.length
  rw [List.getElem?_eq_none_iff] at *
  omega
theorem VRs.perm {K : PySem.W.Frag} {G : Gh} {H : Hp} {xs : List MV} {vs : List V} (h : VRs K G H xs vs) : ∀ idx, VRs K G H (permL idx xs) (permL idx vs)
  | [] => VRs.nil (K := K) (G := G) (H := H)
  | i :: r => by
    unfold permL
    cases e : xs[i]? with
    | none => simp only [List.filterMap_cons, e, h.none e]; exact h.perm r
    | some x =>
      obtain ⟨v, hv, q⟩ := h.get e
      simp only [List.filterMap_cons, e, hv]
      exact .cons q (h.perm r)
theorem vals_get {vs : List V} {us : List Value} (h : Vals vs us) : ∀ i : Nat, (vs[i]? = none ∧ us[i]? = none) ∨ ∃ (v : V) (u : Value), vs[i]? = some v ∧ us[i]? = some u ∧ RelV v u := by
  induction h with
  | nil => exact fun i => .inl ⟨rfl, rfl⟩
  | cons r _ ih =>
    intro i
    cases i with
    | zero => exact .inr ⟨_, _, rfl, rfl, r⟩
    | succ i => simpa using ih i
theorem vals_perm {vs : List V} {us : List Value} (h : Vals vs us) : ∀ idx, Vals (permL idx vs) (permL idx us)
  | [] => .nil
  | i :: r => by
    unfold permL
    rcases vals_get h i with ⟨e1, e2⟩ | ⟨v, u, e1, e2, q⟩
    · simp only [List.filterMap_cons, e1, e2]; exact vals_perm h r
    · simp only [List.filterMap_cons, e1, e2]; exact .cons q (vals_perm h r)
def KB (fd : FuncData) (ps ks : List Str) (np : Nat) (idx : List Nat) : Prop := ∀ (s : Shared) (us ws : List Value), us.length = np → ws.length = ks.length → BindsTo s fd ⟨us, ks.zip ws⟩ (ps.zip (permL idx (us ++ ws)))
section
variable {X : Cx} {R : RC} {W : WX} {pos pp apos : Pos} {x : Str} {f : Addr} {fd : FuncData} {ps ks : List Str} {n np k : Nat} {run : Fn} {idx : List Nat} {kws : List Keyword}
def JKs (X : Cx) (R : RC) (W : WX) (kws : List Keyword) (f : MS → Out (List MV)) : Prop := R.K = X.K → ∀ F, PK X kws (tVs R F W f)
theorem PK.imp {X : Cx} {e : List Keyword} {t t' : TA} (h : PK X e t) (k : ∀ σ H Q, t' σ H Q → t σ H Q) : PK X e t' := ⟨fun pos pins s σ H Q I q => h.run pos pins s σ H Q I (k σ H Q q)⟩
theorem jks_nil : JKs X R W [] (fun s => .ok [] s) := fun _ F => PK.imp pk_nil fun σ H Q ⟨G, s, rel, h⟩ => h G H _ rel .refl (VRs.nil (K := R.K) (G := G) (H := H))
theorem jks_cons {e : Expr} {kpos : Pos} {nm : Option Str} {f : ME} {fs : MS → Out (List MV)} (he : JE X R W e f) (hs : JKs X R W kws fs) : JKs X R W (⟨nm, e, kpos⟩ :: kws) (mConsS f fs) := fun hK F =>
  PK.imp (pk_cons (jv_of he hK F) (hs hK F)) fun σ H Q h => by
    refine (first (M := rlV) h).mono fun x H1 ⟨G, r1, s1, G1, w, rr, o⟩ => ?_
    exact (next (M := rlS) w o).mono fun ys H2 ⟨rs, s2, G2, w2, e12, rr2, o2⟩ => o2 _ _ _ w2.rel w2.evo (VRs.cons (VR.mono e12.mo _ _ rr) rr2)
/-- f(k = v, ..) -/
def mCallK0 (run : Fn) (n nk : Nat) (idx : List Nat) (fk : MS → Out (List MV)) : ME := fun s => (fk s).bind fun ys s1 => if ys.length = nk ∧ (permL idx ys).length = n then mRun run (permL idx ys) s1 else .bad
theorem je_callK0 {fk : MS → Out (List MV)} (Fo : FnOk X.prog X.w X.K X.mg X.base (L2.CX X.prog X.w) k f fd ps (spF R n run)) (tk : Takes X W) (hr : Room k X.A) (hm : X.mg x = some (.ref f)) (hk : PySem.W.keepIn X.K (.ref f) = true) (hb : KB fd ps ks 0 idx)
    (ha : JKs X R W kws fk) (hg : Gl X x := by rfl) (hdb : (x == ("__debug__" : Str)) = false := by decide) (hall : (backToKw pos (keywordEach kws X.env)).all (·.1.isSome) = true := by rfl) (hks : (backToKw pos (keywordEach kws X.env)).filterMap (·.1) = ks := by rfl)
    (hpl : ((backTo pos (starEach [] X.env)).any (·.1) || (backToKw pos (keywordEach kws X.env)).any (·.1.isNone)) = false := by rfl) :
    JE X R W (.Call (.Name x pp) [] kws pos) (mCallK0 run n ks.length idx fk) := fun hK F => by
  refine ⟨fun pins s σ H Q I h => ?_⟩
  refine wpAny_Call_Name_kw (ld_glob I hg hm ?_ hdb)
  refine PySem.W.callWith_KW0 (h₀ := X.base) I.ok.mod.kin hk hall (thn ((ha hK F).run pos pins s σ H _ I (first (M := rlS) h)) fun ws s2 ⟨zs, H2, I2, rz, G, ys, s1, G1, w, rr, o⟩ => ⟨I2.kIn, ?_⟩) hpl
  have rr : VRs R.K G1 H2 ys zs := rr
  split at o
  · rename_i hl
    rw [hks]
    have hw : ws.length = ks.length := by rw [← rz.length, ← rr.length]; exact hl.1
    have hb' := hb s2 [] ws rfl hw
    rw [List.nil_append] at hb'
    exact run_args (E := WE W) (args := ⟨[], ks.zip ws⟩) Fo hr hb' (passAt tk σ) I2 (vals_perm rz idx) (run_sp w (rr.perm idx) hl.2 o)
  · exact o.elim
/-- f() -/
def mCall0 (run : Fn) : ME := fun s => mRun run [] s
theorem je_call0 (Fo : FnOk X.prog X.w X.K X.mg X.base (L2.CX X.prog X.w) k f fd ps (spF R 0 run)) (tk : Takes X W) (hr : Room k X.A) (hm : X.mg x = some (.ref f)) (hk : PySem.W.keepIn X.K (.ref f) = true) (hb : Binds X.K fd ps [])
    (hg : Gl X x := by rfl) (hdb : (x == ("__debug__" : Str)) = false := by decide) : JE X R W (.Call (.Name x pp) [] [] pos) (mCall0 run) := fun hK F => by
  refine ⟨fun pins s σ H Q I h => ?_⟩
  refine wpAny_Call_Name_kw (ld_glob I hg hm ?_ hdb)
  obtain ⟨G, s1, rel, o⟩ := h
  have w : Way R F σ G H G H s1 := ⟨rel, .refl, rel.since⟩
  exact PySem.W.callWith_K0 I.kIn hk (run_all (us := []) (vs := []) (E := WE W) Fo hr hb (passAt tk σ) I .nil (run_sp (xs := []) w (VRs.nil (K := R.K) (G := G) (H := H)) rfl o))
/-- f(e, .., k = v, ..) -/
def mCallK (run : Fn) (n np nk : Nat) (idx : List Nat) (fa fk : MS → Out (List MV)) : ME := fun s => (fa s).bind fun xs s1 => (fk s1).bind fun ys s2 => if xs.length = np ∧ ys.length = nk ∧ (permL idx (xs ++ ys)).length = n then mRun run (permL idx (xs ++ ys)) s2 else .bad
theorem je_callK {e : Expr} {es : List Expr} {fa fk : MS → Out (List MV)} (Fo : FnOk X.prog X.w X.K X.mg X.base (L2.CX X.prog X.w) k f fd ps (spF R n run)) (tk : Takes X W) (hr : Room k X.A) (hm : X.mg x = some (.ref f)) (hk : PySem.W.keepIn X.K (.ref f) = true) (hb : KB fd ps ks np idx)
    (ha : JAs X R W (e :: es) fa) (hkw : JKs X R W kws fk) (hg : Gl X x := by rfl) (hdb : (x == ("__debug__" : Str)) = false := by decide) (hall : (backToKw pos (keywordEach kws X.env)).all (·.1.isSome) = true := by rfl) (hks : (backToKw pos (keywordEach kws X.env)).filterMap (·.1) = ks := by rfl)
    (he : starEach (e :: es) X.env = (false, eval e X.env) :: starEach es X.env := by rfl)
    (hpl : ((backTo pos (starEach (e :: es) X.env)).any (·.1) || (backToKw pos (keywordEach kws X.env)).any (·.1.isNone)) = false := by rfl) :
    JE X R W (.Call (.Name x pp) (e :: es) kws pos) (mCallK run n np ks.length idx fa fk) := fun hK F => by
  refine ⟨fun pins s σ H Q I h => ?_⟩
  refine wpAny_Call_Name_kw (ld_glob I hg hm ?_ hdb)
  refine PySem.W.callWith_KW (h₀ := X.base) I.ok.mod.kin hk hall (thn ((ha hK F).run pos pins s σ H _ I (first (M := rlS) h)) fun us s2 ⟨vs, H1, I1, r, G, xs, s1, G1, w, rr, o⟩ => ?_) hpl he
  refine thn ((hkw hK F).run pos pins s2 σ H1 _ I1 (next (M := rlS) w o)) fun ws s3 ⟨zs, H2, I2, rz, ys, s4, G2, w2, e12, rr2, o2⟩ => ⟨I2.kIn, ?_⟩
  have rr : VRs R.K G1 H1 xs vs := rr
  have rr2 : VRs R.K G2 H2 ys zs := rr2
  split at o2
  · rename_i hl
    rw [hks]
    have hw : ws.length = ks.length := by rw [← rz.length, ← rr2.length]; exact hl.2.1
    have hu : us.length = np := by rw [← r.length, ← rr.length]; exact hl.1
    exact run_args (E := WE W) (args := ⟨us, ks.zip ws⟩) Fo hr (hb s3 us ws hu hw) (passAt tk σ) I2 (vals_perm (r.append rz) idx) (run_sp w2 (((VRs.mono e12.mo _ _ rr).append rr2).perm idx) hl.2.2 o2)
  · exact o2.elim
end
end Mi
set_option Elab.async false
set_option linter.all false
set_option maxRecDepth 100000
set_option maxHeartbeats 4000000
namespace Mi
open PySem PySem.Spec PyProof.Rows L2
section
variable {X : Cx} {R : RC} {W : WX} {pos pp : Pos} {a b : Expr} {fa fb : ME} {k : Nat}
theorem takes_no : Takes X (fun _ _ _ _ => False) := fun _ _ ⟨_, _, _, _, _, _, _, _, _, _, _, _, _, _, _, _, w⟩ => w.elim
theorem hu_eq {A : Around} (hr : Room k A) : A.units + 64 < cLine := by have := hr.un; omega
theorem je_add (ha : JE X R W a fa) (hb : JE X R W b fb) : JE X R W (.BinOp a .Add b pos) (mBin opAdd fa fb) := se_bin op_addM (fun h => h ▸ pr_add) ha hb
theorem je_sub (ha : JE X R W a fa) (hb : JE X R W b fb) : JE X R W (.BinOp a .Sub b pos) (mBin opSub fa fb) := se_bin op_sub (fun _ => pr_sub) ha hb
theorem je_mul (ha : JE X R W a fa) (hb : JE X R W b fb) : JE X R W (.BinOp a .Mult b pos) (mBin opMul fa fb) := se_bin op_mul (fun _ => pr_mul) ha hb
theorem je_mod (ha : JE X R W a fa) (hb : JE X R W b fb) : JE X R W (.BinOp a .Mod b pos) (mBin opMod fa fb) := se_bin op_mod (fun _ => pr_mod) ha hb
theorem je_div (ha : JE X R W a fa) (hb : JE X R W b fb) : JE X R W (.BinOp a .FloorDiv b pos) (mBin opDiv fa fb) := se_bin op_fdiv (fun _ => pr_div) ha hb
theorem je_pow (ha : JE X R W a fa) (hb : JE X R W b fb) : JE X R W (.BinOp a .Pow b pos) (mBin opPow fa fb) := se_bin op_pow (fun _ => pr_pow) ha hb
theorem je_lt (ha : JE X R W a fa) (hb : JE X R W b fb) (hm : behindInMarks .Lt b = false := by rfl) : JE X R W (.Compare a [.Lt] [b] pos) (mBin opLt fa fb) := se_cmp op_lt (fun _ => pr_lt) ha hb hm
theorem je_le (ha : JE X R W a fa) (hb : JE X R W b fb) (hm : behindInMarks .LtE b = false := by rfl) : JE X R W (.Compare a [.LtE] [b] pos) (mBin opLe fa fb) := se_cmp op_le (fun _ => pr_le) ha hb hm
theorem je_gt (ha : JE X R W a fa) (hb : JE X R W b fb) (hm : behindInMarks .Gt b = false := by rfl) : JE X R W (.Compare a [.Gt] [b] pos) (mBin opGt fa fb) := se_cmp op_gt (fun _ => pr_gt) ha hb hm
theorem je_ge (ha : JE X R W a fa) (hb : JE X R W b fb) (hm : behindInMarks .GtE b = false := by rfl) : JE X R W (.Compare a [.GtE] [b] pos) (mBin opGe fa fb) := se_cmp op_ge (fun _ => pr_ge) ha hb hm
theorem je_eq (hr : Room k X.A) (ha : JE X R W a fa) (hb : JE X R W b fb) (hm : behindInMarks .Eq b = false := by rfl) : JE X R W (.Compare a [.Eq] [b] pos) (mBin (opEqv false) fa fb) := se_cmp (op_eqD (hu_eq hr)) (fun h => h ▸ pr_eqv) ha hb hm
theorem je_ne (hr : Room k X.A) (ha : JE X R W a fa) (hb : JE X R W b fb) (hm : behindInMarks .NotEq b = false := by rfl) : JE X R W (.Compare a [.NotEq] [b] pos) (mBin (opEqv true) fa fb) := se_cmp (op_neD (hu_eq hr)) (fun h => h ▸ pr_nev) ha hb hm
theorem jt_lt (ha : JE X R W a fa) (hb : JE X R W b fb) (hm : behindInMarks .Lt b = false := by rfl) : JT X R W (.Compare a [.Lt] [b] pos) (mTestB (mBin opLt fa fb)) := jt_cmp op_lt (fun _ => pr_lt) ha hb hm
theorem jt_le (ha : JE X R W a fa) (hb : JE X R W b fb) (hm : behindInMarks .LtE b = false := by rfl) : JT X R W (.Compare a [.LtE] [b] pos) (mTestB (mBin opLe fa fb)) := jt_cmp op_le (fun _ => pr_le) ha hb hm
theorem jt_gt (ha : JE X R W a fa) (hb : JE X R W b fb) (hm : behindInMarks .Gt b = false := by rfl) : JT X R W (.Compare a [.Gt] [b] pos) (mTestB (mBin opGt fa fb)) := jt_cmp op_gt (fun _ => pr_gt) ha hb hm
theorem jt_ge (ha : JE X R W a fa) (hb : JE X R W b fb) (hm : behindInMarks .GtE b = false := by rfl) : JT X R W (.Compare a [.GtE] [b] pos) (mTestB (mBin opGe fa fb)) := jt_cmp op_ge (fun _ => pr_ge) ha hb hm
theorem jt_eq (hr : Room k X.A) (ha : JE X R W a fa) (hb : JE X R W b fb) (hm : behindInMarks .Eq b = false := by rfl) : JT X R W (.Compare a [.Eq] [b] pos) (mTestB (mBin (opEqv false) fa fb)) := jt_cmp (op_eqD (hu_eq hr)) (fun h => h ▸ pr_eqv) ha hb hm
theorem jt_ne (hr : Room k X.A) (ha : JE X R W a fa) (hb : JE X R W b fb) (hm : behindInMarks .NotEq b = false := by rfl) : JT X R W (.Compare a [.NotEq] [b] pos) (mTestB (mBin (opEqv true) fa fb)) := jt_cmp (op_neD (hu_eq hr)) (fun h => h ▸ pr_nev) ha hb hm
theorem je_join {o e : Expr} {apos cpos : Pos} {fo : ME} {fs : MS → Out (List RV)} (ho : JE X R W o fo) (ha : JA X R W [e] fs)
    (hbase : attributeBase o "join" X.env (eval o X.env) = eval o X.env := by rfl) (hfew : ((backTo cpos (starEach [e] X.env)).all (fun x => !x.1) && (backToKw cpos (keywordEach [] X.env)).all (fun x => x.1.isSome) && decide ([e].length + ([] : List Keyword).length + (if ([] : List Keyword).isEmpty then 0 else 1) < 30)) = true := by rfl)
    (hline : (apos.endLine == cpos.line) = true := by rfl) (hs : starEach [e] X.env = (false, eval e X.env) :: starEach [] X.env := by rfl) : JE X R W (.Call (.Attribute o "join" apos) [e] [] cpos) (mSM pJoin fo fs) :=
  je_sm PySem.F.slot_str_join PySem.F.type_str_join mt_join (fun h => h ▸ pr_join) ho ha hbase hfew hline hs
theorem je_sindex {o e : Expr} {apos cpos : Pos} {fo : ME} {fs : MS → Out (List RV)} (ho : JE X R W o fo) (ha : JA X R W [e] fs)
    (hbase : attributeBase o "index" X.env (eval o X.env) = eval o X.env := by rfl) (hfew : ((backTo cpos (starEach [e] X.env)).all (fun x => !x.1) && (backToKw cpos (keywordEach [] X.env)).all (fun x => x.1.isSome) && decide ([e].length + ([] : List Keyword).length + (if ([] : List Keyword).isEmpty then 0 else 1) < 30)) = true := by rfl)
    (hline : (apos.endLine == cpos.line) = true := by rfl) (hs : starEach [e] X.env = (false, eval e X.env) :: starEach [] X.env := by rfl) : JE X R W (.Call (.Attribute o "index" apos) [e] [] cpos) (mSM pIndexS fo fs) :=
  je_sm PySem.F.slot_str_index PySem.F.type_str_index mt_sindex (fun _ => pr_sindex) ho ha hbase hfew hline hs
/-- a text among the globals -/
theorem je_gstr {x : Str} {z : List Nat} (hm : ∃ t, X.mg x = some (.str ⟨z.toArray⟩ t)) (hg : Gl X x := by rfl) (hd : (x == ("__debug__" : Str)) = false := by decide) : JE X R W (.Name x pos) (mC (.str z)) := by
  obtain ⟨t, hm⟩ := hm
  exact je_glob hm (v := .str ⟨z.toArray⟩) ⟨t, rfl⟩ (fun G H => VR.mkStr (K := R.K) (G := G) (H := H)) hg hd
end
theorem boot_int' : bootBuiltins "int" = some (.type "int") := by decide +kernel
theorem boot_abs : bootBuiltins "abs" = some (.builtin "abs") := by decide +kernel
theorem boot_max : bootBuiltins "max" = some (.builtin "max") := by decide +kernel
theorem boot_min : bootBuiltins "min" = some (.builtin "min") := by decide +kernel
theorem boot_ord : bootBuiltins "ord" = some (.builtin "ord") := by decide +kernel
theorem boot_sum : bootBuiltins "sum" = some (.builtin "sum") := by decide +kernel
theorem boot_repr : bootBuiltins "repr" = some (.builtin "repr") := by decide +kernel
theorem boot_all : bootBuiltins "all" = some (.builtin "all") := by decide +kernel
theorem boot_any : bootBuiltins "any" = some (.builtin "any") := by decide +kernel
section
variable {X : Cx} {R : RC} {W : WX} {pos pp : Pos} {e : Expr} {es : List Expr} {fs : MS → Out (List RV)}
variable (ha : JA X R W (e :: es) fs) (hpl : (backTo pos (starEach es X.env)).any (·.1) = false := by rfl) (he : starEach (e :: es) X.env = (false, eval e X.env) :: starEach es X.env := by rfl)
include ha hpl he
theorem je_len (hm : X.mg "len" = none) (hg : Gl X "len" := by rfl) : JE X R W (.Call (.Name "len" pp) (e :: es) [] pos) (mCallB pLen fs) := je_callB call_len (fun h => h ▸ pr_len) hm PySem.boot_len ha hg (he := he) (hpl := hpl)
theorem je_abs (hm : X.mg "abs" = none) (hg : Gl X "abs" := by rfl) : JE X R W (.Call (.Name "abs" pp) (e :: es) [] pos) (mCallB pAbs fs) := je_callB call_abs (fun _ => pr_abs) hm boot_abs ha hg (he := he) (hpl := hpl)
theorem je_max (hm : X.mg "max" = none) (hg : Gl X "max" := by rfl) (hc : X.calm = true := by rfl) : JE X R W (.Call (.Name "max" pp) (e :: es) [] pos) (mCallB pMax fs) := je_callB (call_max2 hc) (fun _ => pr_int2) hm boot_max ha hg (he := he) (hpl := hpl)
theorem je_min (hm : X.mg "min" = none) (hg : Gl X "min" := by rfl) (hc : X.calm = true := by rfl) : JE X R W (.Call (.Name "min" pp) (e :: es) [] pos) (mCallB pMin fs) := je_callB (call_min2 hc) (fun _ => pr_int2) hm boot_min ha hg (he := he) (hpl := hpl)
theorem je_ord (hm : X.mg "ord" = none) (hg : Gl X "ord" := by rfl) : JE X R W (.Call (.Name "ord" pp) (e :: es) [] pos) (mCallB pOrd fs) := je_callB call_ord (fun _ => pr_ord) hm boot_ord ha hg (he := he) (hpl := hpl)
theorem je_reprB (hm : X.mg "repr" = none) (hg : Gl X "repr" := by rfl) : JE X R W (.Call (.Name "repr" pp) (e :: es) [] pos) (mCallB pReprB fs) := je_callB call_repr_bl (fun _ => pr_reprB) hm boot_repr ha hg (he := he) (hpl := hpl)
theorem je_int (hm : X.mg "int" = none) (hg : Gl X "int" := by rfl) : JE X R W (.Call (.Name "int" pp) (e :: es) [] pos) (mCallB pInt fs) := je_callTy call_int1 (fun _ => pr_int) hm boot_int' ha hg (he := he) (hpl := hpl)
theorem je_sum (hm : X.mg "sum" = none) (hg : Gl X "sum" := by rfl) (hc : X.calm = true := by rfl) : JE X R W (.Call (.Name "sum" pp) (e :: es) [] pos) (mCallB pSum fs) := je_callB (cr_sum hc) (fun h => h ▸ pr_sum) hm boot_sum ha hg (he := he) (hpl := hpl)
theorem je_all (hm : X.mg "all" = none) (hg : Gl X "all" := by rfl) (hc : X.calm = true := by rfl) : JE X R W (.Call (.Name "all" pp) (e :: es) [] pos) (mCallB (pAll (·.all id)) fs) := je_callB (cr_all hc) (fun h => h ▸ pr_all) hm boot_all ha hg (he := he) (hpl := hpl)
theorem je_any (hm : X.mg "any" = none) (hg : Gl X "any" := by rfl) (hc : X.calm = true := by rfl) : JE X R W (.Call (.Name "any" pp) (e :: es) [] pos) (mCallB (pAll (·.any id)) fs) := je_callB (cr_any hc) (fun h => h ▸ pr_any) hm boot_any ha hg (he := he) (hpl := hpl)
end
end Mi
set_option Elab.async false
set_option linter.all false
set_option maxRecDepth 100000
set_option maxHeartbeats 4000000
namespace Mi
open PySem PySem.Spec PyProof.Rows L2
section
variable {X : Cx} {R : RC} {W : WX} {F : FI} {σ : L2.St} {G G1 : Gh} {H H1 : Hp} {s s1 : MS} {pos : Pos}
/-! isinstance of a built-in class -/
def kindR (s : MS) (r : RV) : Option String := match r with
  | .v .non => some "NoneType"
  | .v (.bl _) => some "bool"
  | .v (.int _) => some "int"
  | .v (.str _) => some "str"
  | .v (.tup _) => some "tuple"
  | r => match cont s r with
    | some (.lst _) => some "list"
    | some (.dict _) => some "dict"
    | _ => none
theorem sqL_ty {K : PySem.W.Frag} {a : Addr} {xs : List V} (h : SqL K H a xs) : TyX K H (.ref a) (.type "list") := by
  rcases h with (h | ⟨o, h⟩) | ⟨o, its, n, hk, hc, _⟩
  · exact .base (.lst h)
  · exact .base (.frz h)
  · exact .kList hk hc
theorem sqT_ty {K : PySem.W.Frag} {a : Addr} {xs : List V} (h : SqT K H a xs) : TyX K H (.ref a) (.type "tuple") := by
  rcases h with (h | ⟨o, h⟩) | ⟨o, its, n, hk, hc, _⟩
  · exact .base (.tup h)
  · exact .fTuple h
  · exact .kTuple hk hc
theorem kind_ok {Hs : Hp} {r : RV} {v : V} {T : String} (rel : Rel R F G s σ H) (rr : RR R σ Hs G H r v) (e : kindR s r = some T) : TyX R.K H v (.type T) := by
  unfold kindR at e
  split at e
  · cases RR.non rr; cases e; exact .base .non
  · cases RR.bl rr; cases e; exact .base (.bl _)
  · cases RR.int rr; cases e; exact .base (.int _)
  · cases RR.str rr; cases e; exact .base (.str _)
  · obtain ⟨a, vs, rfl, k, _⟩ := RR.tup rr
    cases e
    exact sqT_ty k
  · split at e
    · rename_i xs c
      obtain ⟨a, rfl, vs, k, _⟩ := cont_ok rel rr c
      cases e
      exact sqL_ty k
    · rename_i kvs c
      obtain ⟨a, rfl, ho, k, d⟩ := cont_ok rel rr c
      cases e
      obtain ⟨dk, rfl, _⟩ := d
      exact .base (.dK k)
    · cases e
def pIsi (T : String) (r : RV) (s : MS) : Out RV := match (kindR s r).bind fun k => kitB k T with
  | some b => .ok (.v (.bl b)) s
  | none => .bad
def mIsi (T : String) (f : ME) : ME := fun s => (f s).bind fun r s1 => pIsi T r s1
theorem je_isi {e : Expr} {f : ME} {x : Str} {T : String} {p tp : Pos} (he : JE X R W e f) (hm : X.mg "isinstance" = none) (hx : X.mg x = none) (hb : bootBuiltins x = some (.type T)) (hg : Gl X "isinstance" := by rfl) (hgx : Gl X x := by rfl) (hn : x ≠ "__name__" := by decide) (hd : (x == ("__debug__" : Str)) = false := by decide)
    (hs : starEach (e :: [.Name x tp]) X.env = (false, eval e X.env) :: starEach [.Name x tp] X.env := by rfl) (hs2 : starEach [.Name x tp] X.env = (false, eval (.Name x tp) X.env) :: starEach [] X.env := by rfl) (hpl : (backTo pos (starEach [.Name x tp] X.env)).any (·.1) = false := by rfl) :
    JE X R W (.Call (.Name "isinstance" p) [e, .Name x tp] [] pos) (mIsi T f) := fun hK F =>
  PE.imp (pe_callB call_isi hg hm PyProof.Rows.boot_isinstance (pa_cons (he hK F) (pa_cons (pe_bltn (v := .ty T) hgx hx hb rfl hn hd) pa_nil hs2) hs) (by decide) (by decide) hs hpl) fun σ H Q h => by
    refine (first (M := rlE) h).mono fun y H1 ⟨G, r, s1, G1, w, rr, o⟩ => ?_
    unfold pIsi at o
    split at o
    · rename_i b e
      obtain ⟨k, e1, e2⟩ := Option.bind_eq_some_iff.mp e
      exact ⟨y, _, _, _, b, rfl, .ty T, by rw [← hK]; exact kind_ok w.rel rr e1, kit_ty e2, finB w o⟩
    · exact o.elim
/-! in, not in -/
def flatOf : MV → Option V
  | .non => some .non
  | .bl b => some (.bl b)
  | .int i => some (.int i)
  | .str z => some (.str ⟨z.toArray⟩)
  | _ => none
def flatsOf : List MV → Option (List V)
  | [] => some []
  | x :: xs => match flatOf x, flatsOf xs with | some v, some vs => some (v :: vs) | _, _ => none
theorem flat_ok {K : PySem.W.Frag} {x : MV} {v u : V} (h : VR K G H x v) (e : flatOf x = some u) : v = u ∧ flatV u = true := by
  cases x with
  | non => cases e; exact ⟨VR.non h, rfl⟩
  | bl b => cases e; exact ⟨VR.bl h, rfl⟩
  | int b => cases e; exact ⟨VR.int h, rfl⟩
  | str b => cases e; exact ⟨VR.str h, rfl⟩
  | _ => cases e
theorem flats_ok {K : PySem.W.Frag} : ∀ {xs : List MV} {vs us : List V}, VRs K G H xs vs → flatsOf xs = some us → vs = us ∧ us.all flatV = true
  | [], _, _, h, e => by unfold VRs at h; subst h; cases e; exact ⟨rfl, rfl⟩
  | x :: xs, _, _, h, e => by
    obtain ⟨v, r, rfl, p, q⟩ := h.inv
    simp only [flatsOf] at e
    split at e
    · rename_i u us e1 e2
      cases e
      obtain ⟨rfl, f1⟩ := flat_ok p e1
      obtain ⟨rfl, f2⟩ := flats_ok q e2
      exact ⟨rfl, by rw [List.all_cons, f1, f2]; rfl⟩
    · cases e
def opIn (neg : Bool) (r1 r2 : RV) (s : MS) : Out RV := match r1, r2 with
  | .v (.str [c]), .v (.str z) => .ok (.v (.bl (neg ^^ decide (c ∈ z)))) s
  | .v x, r2 => match flatOf x, (seqOf s r2).bind flatsOf with
    | some v, some vs => .ok (.v (.bl (neg ^^ inV v vs))) s
    | _, _ => .bad
  | _, _ => .bad
theorem in_seq {Hs : Hp} {x : MV} {r2 : RV} {y z : V} {v : V} {vs : List V} {neg : Bool} {Q : VK} (rel : Rel R F G s σ H) (h1 : VR R.K G H x y) (h2 : RR R σ Hs G H r2 z) (e1 : flatOf x = some v) (e2 : (seqOf s r2).bind flatsOf = some vs) (q : Q (.bl (neg ^^ inV v vs)) H) : rIn R.K neg y z H Q := by
  obtain ⟨xs, e3, e4⟩ := Option.bind_eq_some_iff.mp e2
  obtain ⟨a, ws, rfl, k, h⟩ := seq_ok rel h2 e3
  obtain ⟨rfl, f1⟩ := flat_ok h1 e1
  obtain ⟨rfl, f2⟩ := flats_ok h e4
  refine ⟨a, _, rfl, k, f1, f2, ?_⟩
  cases neg <;> simpa using q
theorem pr_in : PrimR R (fun x y H Q => (∃ (c : Nat) (z : Str), x = .str ⟨#[c]⟩ ∧ y = .str z ∧ Q (.bl (decide (c ∈ z.cps.toList))) H) ∨ rIn R.K false x y H Q) (opIn false) := fun {F W σ G H G2 H2 s2 r1 r2 x y Q} w h1 h2 o => by
  unfold opIn at o
  split at o
  · cases RR.str h1; cases RR.str h2
    exact .inl ⟨_, _, rfl, rfl, by simpa using finB w o⟩
  · split at o
    · rename_i v vs e1 e2
      exact .inr (in_seq w.rel h1 h2 e1 e2 (finB w o))
    · exact o.elim
  · exact o.elim
theorem pr_notIn : PrimR R (fun x y H Q => (∃ (c : Nat) (z : Str), x = .str ⟨#[c]⟩ ∧ y = .str z ∧ Q (.bl (!decide (c ∈ z.cps.toList))) H) ∨ rIn R.K true x y H Q) (opIn true) := fun {F W σ G H G2 H2 s2 r1 r2 x y Q} w h1 h2 o => by
  unfold opIn at o
  split at o
  · cases RR.str h1; cases RR.str h2
    exact .inl ⟨_, _, rfl, rfl, by simpa using finB w o⟩
  · split at o
    · rename_i v vs e1 e2
      exact .inr (in_seq w.rel h1 h2 e1 e2 (finB w o))
    · exact o.elim
  · exact o.elim
/-! is -/
def nonR (s : MS) : RV → Option Bool
  | .v .non => some true
  | .v _ => some false
  | .own _ => some false
  | .fld _ _ => some false
  | .loc i => match s.env[i]? with | some (some (.own _)) => some false | _ => none
def opIs (neg : Bool) (r1 r2 : RV) (s : MS) : Out RV := match r2 with
  | .v .non => match nonR s r1 with | some b => .ok (.v (.bl (neg ^^ b))) s | none => .bad
  | .v (.bl b) => match r1 with | .v (.bl a) => .ok (.v (.bl (neg ^^ decide (a = b)))) s | _ => .bad
  | _ => .bad
theorem rr_non {Hs : Hp} {r : RV} {v : V} (rel : Rel R F G s σ H) (rr : RR R σ Hs G H r v) {b : Bool} (e : nonR s r = some b) : decide (v = .non) = b := by
  have ref : ∀ {a : Addr}, v = .ref a → decide (v = .non) = false := fun {a} e => by subst e; exact decide_eq_false (by simp)
  cases r with
  | v x =>
    cases x with
    | non => cases RR.non rr; cases e; rfl
    | bl b => cases RR.bl rr; cases e; rfl
    | int i => cases RR.int rr; cases e; rfl
    | str z => cases RR.str rr; cases e; rfl
    | tup xs => obtain ⟨a, vs, q, _⟩ := RR.tup rr; cases e; exact ref q
    | lst xs =>
      have rr : VR R.K G H (.lst xs) v := rr
      unfold VR at rr
      obtain ⟨a, vs, q, _⟩ := rr; cases e; exact ref q
    | dct ks vs =>
      have rr : VR R.K G H (.dct ks vs) v := rr
      unfold VR at rr
      obtain ⟨a, vs, q, _⟩ := rr; cases e; exact ref q
    | ref n =>
      have rr : VR R.K G H (.ref n) v := rr
      unfold VR at rr
      obtain ⟨a, q, _⟩ := rr; cases e; exact ref q
  | own c => obtain ⟨a, q, _⟩ := rr; cases e; exact ref q
  | loc i =>
    simp only [nonR] at e
    split at e
    case h_2 => cases e
    rename_i c hc
    cases e
    obtain ⟨w, q, a, ev, _⟩ := rel.env i _ hc
    have rr' : σ[i]? = some (some v) := rr
    rw [rr'] at q; cases q
    exact ref ev
  | fld n f => obtain ⟨a, q, _⟩ := rr; cases e; exact ref q
theorem pr_is : PrimR R (fun x y H Q => rIsN x y H Q ∨ rIsB x y H Q) (opIs false) := fun {F W σ G H G2 H2 s2 r1 r2 x y Q} w h1 h2 o => by
  unfold opIs at o
  split at o
  · cases RR.non h2
    split at o
    · rename_i b e
      exact .inl ⟨rfl, by rw [rr_non w.rel h1 e]; simpa using finB w o⟩
    · exact o.elim
  · cases RR.bl h2
    split at o
    · cases RR.bl h1
      exact .inr ⟨_, _, rfl, rfl, by simpa using finB w o⟩
    · exact o.elim
  · exact o.elim
theorem pr_isnot : PrimR R (fun x y H Q => rNotN x y H Q ∨ rNotB x y H Q) (opIs true) := fun {F W σ G H G2 H2 s2 r1 r2 x y Q} w h1 h2 o => by
  unfold opIs at o
  split at o
  · cases RR.non h2
    split at o
    · rename_i b e
      exact .inl ⟨rfl, by rw [rr_non w.rel h1 e]; simpa using finB w o⟩
    · exact o.elim
  · cases RR.bl h2
    split at o
    · cases RR.bl h1
      exact .inr ⟨_, _, rfl, rfl, by simpa using finB w o⟩
    · exact o.elim
  · exact o.elim
/-! text order -/
def opOrd (g : Int → Int → Bool) (h : List Nat → List Nat → Bool) (r1 r2 : RV) (s : MS) : Out RV := match r1, r2 with
  | .v (.int i), .v (.int j) => .ok (.v (.bl (g i j))) s
  | .v (.str a), .v (.str b) => .ok (.v (.bl (h a b))) s
  | _, _ => .bad
theorem pr_ord2 {g : Int → Int → Bool} {h : List Nat → List Nat → Bool} {hV : Str → Str → Bool} (e : ∀ a b : List Nat, hV ⟨a.toArray⟩ ⟨b.toArray⟩ = h a b) :
    PrimR R (fun x y H Q => rI0 (fun i j => .bl (g i j)) x y H Q ∨ ∃ i j, x = .str i ∧ y = .str j ∧ Q (.bl (hV i j)) H) (opOrd g h) := fun {F W σ G H G2 H2 s2 r1 r2 x y Q} w h1 h2 o => by
  unfold opOrd at o
  split at o
  · cases RR.int h1; cases RR.int h2
    exact .inl ⟨_, _, rfl, rfl, finB w o⟩
  · cases RR.str h1; cases RR.str h2
    exact .inr ⟨_, _, rfl, rfl, by rw [e]; exact finB w o⟩
  · exact o.elim
abbrev opLt2 := opOrd (fun i j => decide (i < j)) fun a b => decide (a < b)
abbrev opLe2 := opOrd (fun i j => decide (i ≤ j)) fun a b => !decide (b < a)
abbrev opGt2 := opOrd (fun i j => decide (j < i)) fun a b => decide (b < a)
abbrev opGe2 := opOrd (fun i j => decide (j ≤ i)) fun a b => !decide (a < b)
theorem op_lt2 : OpR X (compareOp .Lt) (fun x y H Q => rI0 (fun i j => .bl (decide (i < j))) x y H Q ∨ ∃ i j, x = .str i ∧ y = .str j ∧ Q (.bl (decide (i.cps.toList < j.cps.toList))) H) := OpR.or op_lt op_lt_str
theorem op_le2 : OpR X (compareOp .LtE) (fun x y H Q => rI0 (fun i j => .bl (decide (i ≤ j))) x y H Q ∨ ∃ i j, x = .str i ∧ y = .str j ∧ Q (.bl (!decide (j.cps.toList < i.cps.toList))) H) := OpR.or op_le op_le_str
theorem op_gt2 : OpR X (compareOp .Gt) (fun x y H Q => rI0 (fun i j => .bl (decide (j < i))) x y H Q ∨ ∃ i j, x = .str i ∧ y = .str j ∧ Q (.bl (decide (j.cps.toList < i.cps.toList))) H) := OpR.or op_gt op_gt_str
theorem op_ge2 : OpR X (compareOp .GtE) (fun x y H Q => rI0 (fun i j => .bl (decide (j ≤ i))) x y H Q ∨ ∃ i j, x = .str i ∧ y = .str j ∧ Q (.bl (!decide (i.cps.toList < j.cps.toList))) H) := OpR.or op_ge op_ge_str
theorem pr_lt2 : PrimR R (fun x y H Q => rI0 (fun i j => .bl (decide (i < j))) x y H Q ∨ ∃ i j, x = .str i ∧ y = .str j ∧ Q (.bl (decide (i.cps.toList < j.cps.toList))) H) opLt2 := pr_ord2 (g := fun i j => decide (i < j)) (h := fun a b => decide (a < b)) (hV := fun i j => decide (i.cps.toList < j.cps.toList)) fun a b => rfl
theorem pr_le2 : PrimR R (fun x y H Q => rI0 (fun i j => .bl (decide (i ≤ j))) x y H Q ∨ ∃ i j, x = .str i ∧ y = .str j ∧ Q (.bl (!decide (j.cps.toList < i.cps.toList))) H) opLe2 := pr_ord2 (g := fun i j => decide (i ≤ j)) (h := fun a b => !decide (b < a)) (hV := fun i j => !decide (j.cps.toList < i.cps.toList)) fun a b => rfl
theorem pr_gt2 : PrimR R (fun x y H Q => rI0 (fun i j => .bl (decide (j < i))) x y H Q ∨ ∃ i j, x = .str i ∧ y = .str j ∧ Q (.bl (decide (j.cps.toList < i.cps.toList))) H) opGt2 := pr_ord2 (g := fun i j => decide (j < i)) (h := fun a b => decide (b < a)) (hV := fun i j => decide (j.cps.toList < i.cps.toList)) fun a b => rfl
theorem pr_ge2 : PrimR R (fun x y H Q => rI0 (fun i j => .bl (decide (j ≤ i))) x y H Q ∨ ∃ i j, x = .str i ∧ y = .str j ∧ Q (.bl (!decide (i.cps.toList < j.cps.toList))) H) opGe2 := pr_ord2 (g := fun i j => decide (j ≤ i)) (h := fun a b => !decide (a < b)) (hV := fun i j => !decide (i.cps.toList < j.cps.toList)) fun a b => rfl
variable {a b : Expr} {fa fb : ME}
theorem je_in (ha : JE X R W a fa) (hb : JE X R W b fb) (hm : behindInMarks .In b = false := by rfl) : JE X R W (.Compare a [.In] [b] pos) (mBin (opIn false) fa fb) := se_cmp (OpR.or op_in_sign op_in_seq) (fun h => h ▸ pr_in) ha hb hm
theorem je_notIn (ha : JE X R W a fa) (hb : JE X R W b fb) (hm : behindInMarks .NotIn b = false := by rfl) : JE X R W (.Compare a [.NotIn] [b] pos) (mBin (opIn true) fa fb) := se_cmp (OpR.or op_notIn_sign op_notIn_seq) (fun h => h ▸ pr_notIn) ha hb hm
theorem je_is (ha : JE X R W a fa) (hb : JE X R W b fb) (hm : behindInMarks .Is b = false := by rfl) : JE X R W (.Compare a [.Is] [b] pos) (mBin (opIs false) fa fb) := se_cmp (OpR.or op_isN1 op_isBl) (fun _ => pr_is) ha hb hm
theorem je_isnot (ha : JE X R W a fa) (hb : JE X R W b fb) (hm : behindInMarks .IsNot b = false := by rfl) : JE X R W (.Compare a [.IsNot] [b] pos) (mBin (opIs true) fa fb) := se_cmp (OpR.or op_notN1 op_notBl) (fun _ => pr_isnot) ha hb hm
theorem jt_in (ha : JE X R W a fa) (hb : JE X R W b fb) (hm : behindInMarks .In b = false := by rfl) : JT X R W (.Compare a [.In] [b] pos) (mTestB (mBin (opIn false) fa fb)) := jt_cmp (OpR.or op_in_sign op_in_seq) (fun h => h ▸ pr_in) ha hb hm
theorem jt_notIn (ha : JE X R W a fa) (hb : JE X R W b fb) (hm : behindInMarks .NotIn b = false := by rfl) : JT X R W (.Compare a [.NotIn] [b] pos) (mTestB (mBin (opIn true) fa fb)) := jt_cmp (OpR.or op_notIn_sign op_notIn_seq) (fun h => h ▸ pr_notIn) ha hb hm
theorem jt_is (ha : JE X R W a fa) (hb : JE X R W b fb) (hm : behindInMarks .Is b = false := by rfl) : JT X R W (.Compare a [.Is] [b] pos) (mTestB (mBin (opIs false) fa fb)) := jt_cmp (OpR.or op_isN1 op_isBl) (fun _ => pr_is) ha hb hm
theorem jt_isnot (ha : JE X R W a fa) (hb : JE X R W b fb) (hm : behindInMarks .IsNot b = false := by rfl) : JT X R W (.Compare a [.IsNot] [b] pos) (mTestB (mBin (opIs true) fa fb)) := jt_cmp (OpR.or op_notN1 op_notBl) (fun _ => pr_isnot) ha hb hm
theorem je_lt2 (ha : JE X R W a fa) (hb : JE X R W b fb) (hm : behindInMarks .Lt b = false := by rfl) : JE X R W (.Compare a [.Lt] [b] pos) (mBin opLt2 fa fb) := se_cmp op_lt2 (fun _ => pr_lt2) ha hb hm
theorem je_le2 (ha : JE X R W a fa) (hb : JE X R W b fb) (hm : behindInMarks .LtE b = false := by rfl) : JE X R W (.Compare a [.LtE] [b] pos) (mBin opLe2 fa fb) := se_cmp op_le2 (fun _ => pr_le2) ha hb hm
theorem je_gt2 (ha : JE X R W a fa) (hb : JE X R W b fb) (hm : behindInMarks .Gt b = false := by rfl) : JE X R W (.Compare a [.Gt] [b] pos) (mBin opGt2 fa fb) := se_cmp op_gt2 (fun _ => pr_gt2) ha hb hm
theorem je_ge2 (ha : JE X R W a fa) (hb : JE X R W b fb) (hm : behindInMarks .GtE b = false := by rfl) : JE X R W (.Compare a [.GtE] [b] pos) (mBin opGe2 fa fb) := se_cmp op_ge2 (fun _ => pr_ge2) ha hb hm
/-! list(x) -/
def pListOf (rs : List RV) (s : MS) : Out RV := match rs with
  | [r] => match seqOf s r with
    | some xs => .ok (.own (.lst xs)) s
    | none => .bad
  | _ => .bad
theorem pr_listOf : PrimC R (fun xs H Q => ∃ p ys, xs = [.ref p] ∧ (SqL R.K H p ys ∨ SqT R.K H p ys) ∧ ∀ l, H l = none → Q (.ref l) (upd H l (.lst ys))) pListOf := fun {F W σ G H G2 H2 s2 rs vs Q} w rr o => by
  unfold pListOf at o
  split at o
  · obtain ⟨v, t, rfl, r1, rfl⟩ := rr
    split at o
    · rename_i xs e
      obtain ⟨a, ws, rfl, k, h⟩ := seq_ok w.rel r1 e
      exact ⟨a, ws, rfl, k, newLst w h o⟩
    · exact o.elim
  · exact o.elim
theorem boot_list' : bootBuiltins "list" = some (.type "list") := by decide +kernel
theorem boot_tuple' : bootBuiltins "tuple" = some (.type "tuple") := by decide +kernel
theorem boot_bool' : bootBuiltins "bool" = some (.type "bool") := by decide +kernel
theorem boot_dict' : bootBuiltins "dict" = some (.type "dict") := by decide +kernel
theorem boot_str' : bootBuiltins "str" = some (.type "str") := by decide +kernel
theorem je_listOf {e : Expr} {pp : Pos} {fs : MS → Out (List RV)} (ha : JA X R W [e] fs) (hm : X.mg "list" = none) (hg : Gl X "list" := by rfl) (he : starEach [e] X.env = (false, eval e X.env) :: starEach [] X.env := by rfl) (hpl : (backTo pos (starEach [] X.env)).any (·.1) = false := by rfl) : JE X R W (.Call (.Name "list" pp) [e] [] pos) (mCallB pListOf fs) := je_callTy call_list_of (fun h => h ▸ pr_listOf) hm boot_list' ha hg (he := he) (hpl := hpl)
/-! methods that write a list -/
def PrimL (R : RC) (r : V → List V → Hp → VK → Prop) (p : RV → List MV → MS → Out RV) : Prop := ∀ {F : FI} {W : WX} {σ : L2.St} {G : Gh} {H : Hp} {G2 : Gh} {H2 : Hp} {s2 : MS} {r0 : RV} {rs : List MV} {v : V} {vs : List V} {Q : VK},
  Way R F σ G H G2 H2 s2 → RR R σ H G2 H2 r0 v → VRs R.K G2 H2 rs vs → OutX rlE R F W σ G H (p r0 rs s2) Q → r v vs H2 Q
def mLM (p : RV → List MV → MS → Out RV) (fo : ME) (fa : MS → Out (List MV)) : ME := fun s => (fo s).bind fun r s1 => match place s1 r with
  | some (.lst _) => (fa s1).bind fun rs s2 => p r rs s2
  | _ => .bad
theorem je_lm {o e : Expr} {es : List Expr} {name : Str} {id : String} {apos cpos : Pos} {r : V → List V → Hp → VK → Prop} {p : RV → List MV → MS → Out RV} {fo : ME} {fa : MS → Out (List MV)} (slot : Slot "list" name id) (hty : typeOf (.builtin id) = pure (.type "method_descriptor")) (hm : MtR X id r) (pr : R.K = X.K → PrimL R r p) (ho : JE X R W o fo) (ha : JAs X R W (e :: es) fa)
    (hbase : attributeBase o name X.env (eval o X.env) = eval o X.env := by rfl)
    (hfew : ((backTo cpos (starEach (e :: es) X.env)).all (fun x => !x.1) && (backToKw cpos (keywordEach [] X.env)).all (fun x => x.1.isSome)
      && decide ((e :: es).length + ([] : List Keyword).length + (if ([] : List Keyword).isEmpty then 0 else 1) < 30)) = true := by rfl)
    (hline : (apos.endLine == cpos.line) = true := by rfl) (hs : starEach (e :: es) X.env = (false, eval e X.env) :: starEach es X.env := by rfl) (hplain : (backTo cpos (starEach es X.env)).any (·.1) = false := by rfl) :
    JE X R W (.Call (.Attribute o name apos) (e :: es) [] cpos) (mLM p fo fa) := fun hK F =>
  PE.imp (pe_bm PySem.F.plainAttrs_list slot hty hm (ho hK F) (ha hK F) hbase hfew hline hs hplain) fun σ H Q h => by
    refine (first (M := rlE) h).mono fun x H1 ⟨G, r, s1, G1, w, rr, o⟩ => ?_
    have rr : RR R σ H G1 H1 r x := rr
    split at o
    · rename_i xs hp
      obtain ⟨a, rfl, ⟨vs, ha, _⟩, _⟩ := put_ok (c' := .lst []) w.rel rr hp
      refine ⟨.inl ⟨rfl, vs, .inl (.inl ha)⟩, ?_⟩
      refine (next (M := rlS) w o).mono fun vs H2 ⟨rs, s2, G2, w2, e12, rr2, o2⟩ => ?_
      exact pr hK w2 (rr.mono e12) rr2 o2
    · exact o.elim
theorem je_lm0 {o : Expr} {name : Str} {id : String} {apos cpos : Pos} {r : V → List V → Hp → VK → Prop} {p : RV → List MV → MS → Out RV} {fo : ME} (slot : Slot "list" name id) (hty : typeOf (.builtin id) = pure (.type "method_descriptor")) (hm : MtR X id r) (pr : R.K = X.K → PrimL R r p) (ho : JE X R W o fo)
    (hbase : attributeBase o name X.env (eval o X.env) = eval o X.env := by rfl) (hline : (apos.endLine == cpos.line) = true := by rfl) :
    JE X R W (.Call (.Attribute o name apos) [] [] cpos) (mLM p fo (fun s => .ok [] s)) := fun hK F =>
  PE.imp (pe_bm0 PySem.F.plainAttrs_list slot hty hm (ho hK F) hbase hline) fun σ H Q h => by
    refine (first (M := rlE) h).mono fun x H1 ⟨G, r, s1, G1, w, rr, o⟩ => ?_
    have rr : RR R σ H G1 H1 r x := rr
    split at o
    · rename_i xs hp
      obtain ⟨a, rfl, ⟨vs, ha, _⟩, _⟩ := put_ok (c' := .lst []) w.rel rr hp
      exact ⟨.inl ⟨rfl, vs, .inl (.inl ha)⟩, pr hK w rr (VRs.nil (K := R.K) (G := G1) (H := H1)) o⟩
    · exact o.elim
/-- a list at a place written anew -/
theorem put_lst {r : RV} {v : V} {xs ys : List MV} {x : MV} {Q : VK} (w : Way R F σ G H G1 H1 s1) (rr : RR R σ H G1 H1 r v) (e : place s1 r = some (.lst xs)) (o : OutX rlE R F W σ G H (.ok (.v x) (putC s1 r (.lst ys))) Q) :
    ∃ a vs, v = .ref a ∧ H1 a = some (.lst vs) ∧ VRs R.K G1 H1 xs vs ∧ ∀ ws u, VRs R.K G1 H1 ys ws → VR R.K G1 H1 x u → Q u (upd H1 a (.lst ws)) := by
  obtain ⟨a, rfl, ⟨vs, ha, hvs⟩, ⟨q, gq, nf⟩, put⟩ := put_ok w.rel rr e
  refine ⟨a, vs, rfl, ha, hvs, fun ws u hw hu => ?_⟩
  have gn : G1 a ≠ some .frz := fun z => nf (by rw [z] at gq; exact (Option.some.inj gq).symm)
  have mu : Mo G1 H1 G1 (upd H1 a (.lst ws)) := Mo.upd gn
  exact o _ _ _ (put _ ⟨_, upd_same, VRs.mono mu _ _ hw⟩) (w.evo.trans (Evo.updRole gn (by rw [gq]; simp) (fun x u z => by rw [ha] at z; cases z))) (VR.mono mu _ _ hu)
def lAppend (r : RV) (rs : List MV) (s : MS) : Out RV := match rs, place s r with
  | [x], some (.lst xs) => if xs.length < sizeLine then .ok (.v .non) (putC s r (.lst (xs ++ [x]))) else .bad
  | _, _ => .bad
theorem pr_append : PrimL R rAppend lAppend := fun {F W σ G H G2 H2 s2 r0 rs v vs Q} w rr rs o => by
  unfold lAppend at o
  split at o
  · rename_i x xs hp
    obtain ⟨u, t, rfl, p, q⟩ := rs.inv
    unfold VRs at q; subst q
    split at o
    · rename_i hz
      obtain ⟨a, vs, rfl, ha, hv, k⟩ := put_lst w rr hp o
      exact ⟨a, vs, u, rfl, rfl, ha, by rw [← hv.length]; exact hz, k _ _ (hv.append (.cons p (VRs.nil (K := R.K)))) (VR.mkNon (K := R.K))⟩
    · exact o.elim
  · exact o.elim
def lPop (r : RV) (rs : List MV) (s : MS) : Out RV := match rs, place s r with
  | [], some (.lst xs) => match xs[xs.length - 1]? with
    | some x => .ok (.v x) (putC s r (.lst xs.dropLast))
    | none => .bad
  | _, _ => .bad
theorem VRs.dropLast {K : PySem.W.Frag} {G : Gh} {H : Hp} {xs : List MV} {vs : List V} (h : VRs K G H xs vs) : VRs K G H xs.dropLast vs.dropLast := by
  rw [List.dropLast_eq_take, List.dropLast_eq_take, ← h.length]
  exact h.take _
theorem pr_pop : PrimL R rPop lPop := fun {F W σ G H G2 H2 s2 r0 rs v vs Q} w rr rs o => by
  unfold lPop at o
  split at o
  · rename_i xs hp
    unfold VRs at rs; subst rs
    split at o
    · rename_i x hx
      obtain ⟨a, vs, rfl, ha, hv, k⟩ := put_lst w rr hp o
      obtain ⟨u, hu, p⟩ := hv.get hx
      exact ⟨a, vs, u, rfl, rfl, ha, by rw [← hv.length]; exact hu, k _ _ hv.dropLast p⟩
    · exact o.elim
  · exact o.elim
def lClear (r : RV) (rs : List MV) (s : MS) : Out RV := match rs, place s r with
  | [], some (.lst _) => .ok (.v .non) (putC s r (.lst []))
  | _, _ => .bad
theorem pr_clear : PrimL R rClear lClear := fun {F W σ G H G2 H2 s2 r0 rs v vs Q} w rr rs o => by
  unfold lClear at o
  split at o
  · rename_i xs hp
    unfold VRs at rs; subst rs
    obtain ⟨a, vs, rfl, ha, hv, k⟩ := put_lst w rr hp o
    exact ⟨a, vs, rfl, rfl, ha, k _ _ (VRs.nil (K := R.K)) (VR.mkNon (K := R.K))⟩
  · exact o.elim
theorem je_append {o e : Expr} {apos cpos : Pos} {fo : ME} {fa : MS → Out (List MV)} (ho : JE X R W o fo) (ha : JAs X R W [e] fa) (hbase : attributeBase o "append" X.env (eval o X.env) = eval o X.env := by rfl)
    (hfew : ((backTo cpos (starEach [e] X.env)).all (fun x => !x.1) && (backToKw cpos (keywordEach [] X.env)).all (fun x => x.1.isSome) && decide ([e].length + ([] : List Keyword).length + (if ([] : List Keyword).isEmpty then 0 else 1) < 30)) = true := by rfl)
    (hline : (apos.endLine == cpos.line) = true := by rfl) (hs : starEach [e] X.env = (false, eval e X.env) :: starEach [] X.env := by rfl) : JE X R W (.Call (.Attribute o "append" apos) [e] [] cpos) (mLM lAppend fo fa) :=
  je_lm PySem.F.slot_list_append PySem.F.type_list_append mt_append (fun _ => pr_append) ho ha hbase hfew hline hs
theorem je_pop0 {o : Expr} {apos cpos : Pos} {fo : ME} (ho : JE X R W o fo) (hbase : attributeBase o "pop" X.env (eval o X.env) = eval o X.env := by rfl) (hline : (apos.endLine == cpos.line) = true := by rfl) : JE X R W (.Call (.Attribute o "pop" apos) [] [] cpos) (mLM lPop fo (fun s => .ok [] s)) :=
  je_lm0 PySem.F.slot_list_pop PySem.F.type_list_pop mt_pop (fun _ => pr_pop) ho hbase hline
theorem je_clear {o : Expr} {apos cpos : Pos} {fo : ME} (ho : JE X R W o fo) (hbase : attributeBase o "clear" X.env (eval o X.env) = eval o X.env := by rfl) (hline : (apos.endLine == cpos.line) = true := by rfl) : JE X R W (.Call (.Attribute o "clear" apos) [] [] cpos) (mLM lClear fo (fun s => .ok [] s)) :=
  je_lm0 PySem.F.slot_list_clear PySem.F.type_list_clear mt_clear (fun _ => pr_clear) ho hbase hline
end
end Mi
set_option Elab.async false
set_option linter.all false
set_option maxRecDepth 100000
set_option maxHeartbeats 4000000
namespace Mi
open PySem PySem.Spec PyProof.Rows L2
/-! fields -/
theorem putF_keys (f : Str) (v : V) : ∀ fs : List (Str × V), ∀ k, k ∈ (putF f v fs).map (·.1) → k = f ∨ k ∈ fs.map (·.1)
  | [], k, h => by simp [putF] at h; exact .inl h
  | (g, x) :: r, k, h => by
    unfold putF at h
    split at h
    · exact .inr (by simpa using h)
    · simp only [List.map_cons, List.mem_cons] at h ⊢
      rcases h with h | h
      · exact .inr (.inl h)
      · rcases putF_keys f v r k h with q | q
        · exact .inl q
        · exact .inr (.inr q)
theorem putF_nodup (f : Str) (v : V) : ∀ fs : List (Str × V), (fs.map (·.1)).Nodup → ((putF f v fs).map (·.1)).Nodup
  | [], _ => by simp [putF]
  | (g, x) :: r, h => by
    unfold putF
    simp only [List.map_cons, List.nodup_cons] at h
    split
    · simp only [List.map_cons, List.nodup_cons]; exact h
    · rename_i ne
      simp only [List.map_cons, List.nodup_cons]
      refine ⟨fun q => ?_, putF_nodup f v r h.2⟩
      rcases putF_keys f v r g q with z | z
      · exact ne z
      · exact h.1 z
theorem len_of_sub {α : Type} [DecidableEq α] : ∀ {l m : List α}, l.Nodup → (∀ k ∈ l, k ∈ m) → l.length ≤ m.length
  | [], _, _, _ => Nat.zero_le _
  | x :: l, m, h, s => by
    have hx := s x (List.mem_cons_self ..)
    simp only [List.nodup_cons] at h
    have ih := len_of_sub (m := m.erase x) h.2 fun k hk => (List.mem_erase_of_ne (fun z => h.1 (by rw [← z]; exact hk))).mpr (s k (List.mem_cons_of_mem _ hk))
    rw [List.length_erase_of_mem hx] at ih
    have : 0 < m.length := List.length_pos_of_mem hx
    simp only [List.length_cons]; omega
def dropG (G : Gh) (n j : Nat) : Gh := fun d => if G d = some (.fld n j) then none else G d
theorem dropG_of {G : Gh} {n j : Nat} {d : Addr} {r : Role} (h : dropG G n j d = some r) : G d = some r ∧ r ≠ .fld n j := by
  unfold dropG at h
  split at h
  · cases h
  · rename_i z
    exact ⟨h, fun e => z (e ▸ h)⟩
theorem dropG_to {G : Gh} {n j : Nat} {d : Addr} {r : Role} (h : G d = some r) (ne : r ≠ .fld n j) : dropG G n j d = some r := by
  unfold dropG
  rw [if_neg (by rw [h]; intro z; exact ne (Option.some.inj z))]
  exact h
theorem dropG_none {G : Gh} {n j : Nat} {d : Addr} (h : G d = none) : dropG G n j d = none := by
  unfold dropG; rw [if_neg (by rw [h]; simp)]; exact h
def noOwn : Option (Option SV) → Bool
  | some (some (.own _)) => false
  | _ => true
section
variable {R : RC} {F : FI} {G : Gh} {H : Hp} {s : MS} {σ : L2.St} {a : Addr} {n c j : Nat} {fs : List (Option SV)} {nm : Str} {v : V}
theorem drop_evo {o : HO} (ga : G a = some (.obj n)) (h : HRel R G s.hp H) (hn : s.hp[n]? = some (.inst c fs)) (hold : noOwn fs[j]? = true ∨ F.base ≤ n) : Evo (· < F.base) G H (dropG G n j) (upd H a o) := by
  refine ⟨fun d u hd g => ⟨(upd_ne fun z => by rw [z, ga] at g; cases g).trans hd, dropG_none g⟩, fun d g => ⟨dropG_to g (by simp), upd_ne fun z => by rw [z, ga] at g; cases g⟩, fun d m g => dropG_to g (by simp), fun d m f hm g => dropG_to g fun z => ?_, fun d u hd => ?_⟩
  · cases z
    rcases hold with q | q
    · obtain ⟨_, c2, fs2, _, _, _, _, hn2, _, _, _, C, hC⟩ := h.fldOk d n j g
      rw [hn] at hn2; cases hn2
      rw [hC] at q; cases q
    · exact absurd hm (Nat.not_lt.mpr q)
  · by_cases z : d = a
    · subst z
      obtain ⟨a', ga', dx, hfs, ha, _⟩ := h.objs n _ hn
      have ea := h.uniq _ _ _ ga ga'
      subst ea
      exact ⟨_, upd_same, fun x w e => by rw [e, ha] at hd; cases hd⟩
    · exact ⟨u, (upd_ne z).trans hd, fun _ _ _ => rfl⟩
/-- what the field j of the object n gets: the roles behind it -/
inductive NewF (R : RC) (F : FI) (G : Gh) (H : Hp) (n j : Nat) : SV → V → Gh → Prop where
  | v {x : MV} {v : V} (h : VR R.K G H x v) : NewF R F G H n j (.v x) v (dropG G n j)
  | own {C : C} {b : Addr} (g : G b = none) (h0 : F.H0 b = none) (h : CR R.K G H C b) : NewF R F G H n j (.own C) (.ref b) (setG (dropG G n j) b (some (.fld n j)))
theorem setFld_ok {sv : SV} {G' : Gh} (rel : Rel R F G s σ H) (ga : G a = some (.obj n)) (hn : s.hp[n]? = some (.inst c fs)) (hj : (R.flds c)[j]? = some nm) (nd : (R.flds c).Nodup) (hold : noOwn fs[j]? = true ∨ F.base ≤ n) (new : NewF R F G H n j sv v G') :
    ∃ dx hfs, H a = some (.ins (R.cls c) dx hfs) ∧ hfs.length ≤ (R.flds c).length ∧ Rel R F G' { s with hp := s.hp.set n (.inst c (fs.set j (some sv))) } σ (upd H a (.ins (R.cls c) dx (putF nm v hfs))) ∧
      ∀ Gs Hs, Evo (· < F.base) Gs Hs G H → (∀ b, sv.casesOn (fun _ => False) (fun _ => v = .ref b) → Hs b = none) → Evo (· < F.base) Gs Hs G' (upd H a (.ins (R.cls c) dx (putF nm v hfs))) := by
  obtain ⟨a', ga', dx, hfs, ha, hlen, hf, hno, hln, hnd, hks⟩ := rel.hp.objs n _ hn
  have ea := rel.hp.uniq _ _ _ ga ga'
  subst ea
  refine ⟨dx, hfs, ha, hln, ?_⟩
  obtain ⟨H', hH'⟩ : ∃ H', H' = upd H a (.ins (R.cls c) dx (putF nm v hfs)) := ⟨_, rfl⟩
  rw [← hH']
  have same : ∀ d, d ≠ a → H' d = H d := fun d z => by rw [hH']; exact upd_ne z
  have jl : j < fs.length := by rw [hlen]; exact (List.getElem?_eq_some_iff.mp hj).1
  have nme : ∀ f nm', (R.flds c)[f]? = some nm' → f ≠ j → nm' ≠ nm := fun f nm' e z q => by
    subst q
    obtain ⟨h1, e1⟩ := List.getElem?_eq_some_iff.mp e
    obtain ⟨h2, e2⟩ := List.getElem?_eq_some_iff.mp hj
    have pw := List.pairwise_iff_getElem.mp nd
    rcases Nat.lt_or_gt_of_ne z with q | q
    · exact pw f j h1 h2 q (e1.trans e2.symm)
    · exact pw j f h2 h1 q (e2.trans e1.symm)
  have ev0 : Evo (· < F.base) G H (dropG G n j) H' := by rw [hH']; exact drop_evo ga rel.hp hn hold
  -- the roles of G'
  have r1 : ∀ d r, r ≠ .fld n j → (G' d = some r ↔ G d = some r) := fun d r ne => by
    cases new with
    | v h => exact ⟨fun q => (dropG_of q).1, fun q => dropG_to q ne⟩
    | @own C b g h0 h =>
      by_cases z : d = b
      · subst z
        rw [setG_same, g]
        exact ⟨fun q => absurd (Option.some.inj q).symm ne, fun q => by cases q⟩
      · rw [setG_ne z]
        exact ⟨fun q => (dropG_of q).1, fun q => dropG_to q ne⟩
  have r2 : ∀ d, G' d = some (.fld n j) → (∃ C, sv = .own C) ∧ v = .ref d := fun d q => by
    cases new with
    | v h => exact absurd rfl (dropG_of q).2
    | @own C b g h0 h =>
      by_cases z : d = b
      · subst z; exact ⟨⟨_, rfl⟩, rfl⟩
      · rw [setG_ne z] at q; exact absurd rfl (dropG_of q).2
  have aNe : ∀ d r, G d = some r → r ≠ .obj n → d ≠ a := fun d r g ne z => by rw [z, ga] at g; exact ne (Option.some.inj g).symm
  have m : Mo G H G' H' := ⟨fun d g => ⟨(r1 d _ (by simp)).mpr g, same d (aNe d _ g (by simp))⟩, fun d k g => (r1 d _ (by simp)).mpr g⟩
  have hset : ∀ f, f ≠ j → (fs.set j (some sv))[f]? = fs[f]? := fun f z => List.getElem?_set_ne (Ne.symm z)
  have hr : HRel R G' (s.hp.set n (.inst c (fs.set j (some sv)))) H' := by
    refine ⟨fun k u e => ?_, fun x y k gx gy => rel.hp.uniq x y k ((r1 _ _ (by simp)).mp gx) ((r1 _ _ (by simp)).mp gy), fun x k gx => by rw [List.length_set]; exact rel.hp.lt x k ((r1 _ _ (by simp)).mp gx), fun b k f gb => ?_, fun b q gb => ?_⟩
    · by_cases hk : k = n
      · subst hk
        rw [List.getElem?_set_self (rel.hp.lt a k ga)] at e
        cases e
        refine ⟨a, (r1 _ _ (by simp)).mpr ga, dx, putF nm v hfs, by rw [hH']; exact upd_same, by simpa using hlen, fun f nm' ef => ?_, fun nm' hnm' => ?_, ?_, putF_nodup _ _ _ hnd, fun q hq => ?_⟩
        · by_cases z : f = j
          · subst z
            rw [hj] at ef; cases ef
            rw [List.getElem?_set_self jl, lookup_putF, if_pos rfl]
            cases new with
            | v h => exact ⟨v, rfl, VR.mono m _ _ h⟩
            | own g h0 h => exact ⟨_, rfl, setG_same, h.mono m (same _ fun z => by rw [z, ga] at g; cases g)⟩
          · rw [hset f z, lookup_putF, if_neg (nme f nm' ef z)]
            refine (hf f nm' ef).mono m fun b gb => ⟨(r1 _ _ (by intro q; cases q; exact z rfl)).mpr gb, same b (aNe b _ gb (by simp))⟩
        · rw [lookup_putF, if_neg fun z => hnm' (by rw [z]; exact List.mem_of_getElem? hj)]
          exact hno nm' hnm'
        · have := len_of_sub (m := R.flds c) (putF_nodup nm v hfs hnd) fun k hk => by
            rcases putF_keys nm v hfs k hk with z | z
            · rw [z]; exact List.mem_of_getElem? hj
            · exact hks k z
          simpa using this
        · rcases putF_keys nm v hfs q hq with z | z
          · rw [z]; exact List.mem_of_getElem? hj
          · exact hks q z
      · rw [List.getElem?_set_ne (Ne.symm hk)] at e
        obtain ⟨b, gb, q⟩ := rel.hp.objs k u e
        refine ⟨b, (r1 _ _ (by simp)).mpr gb, q.mono m (same b (aNe b _ gb (by intro z; cases z; exact hk rfl))) fun d f gd => ⟨(r1 _ _ (by intro z; cases z; exact hk rfl)).mpr gd, same d (aNe d _ gd (by simp))⟩⟩
    · by_cases z : k = n ∧ f = j
      · obtain ⟨rfl, rfl⟩ := z
        obtain ⟨⟨C, rfl⟩, rfl⟩ := r2 b gb
        exact ⟨a, c, _, dx, _, nm, (r1 _ _ (by simp)).mpr ga, List.getElem?_set_self (rel.hp.lt a k ga), by rw [hH']; exact upd_same, hj, by rw [lookup_putF, if_pos rfl], C, List.getElem?_set_self jl⟩
      · have gb' := (r1 b _ (by intro q; cases q; exact z ⟨rfl, rfl⟩)).mp gb
        obtain ⟨d, c2, fs2, dx2, hfs2, nm2, gd, hn2, hd2, e1, e2, C, e3⟩ := rel.hp.fldOk b k f gb'
        by_cases hk : k = n
        · subst hk
          have ed := rel.hp.uniq _ _ _ ga gd
          subst ed
          rw [hn] at hn2; cases hn2
          rw [ha] at hd2; cases hd2
          have fj : f ≠ j := fun q => z ⟨rfl, q⟩
          exact ⟨a, c, _, dx, _, nm2, (r1 _ _ (by simp)).mpr ga, List.getElem?_set_self (rel.hp.lt a k ga), by rw [hH']; exact upd_same, e1, by rw [lookup_putF, if_neg (nme f nm2 e1 fj)]; exact e2, C, by rw [hset f fj]; exact e3⟩
        · exact ⟨d, c2, fs2, dx2, hfs2, nm2, (r1 _ _ (by simp)).mpr gd, by rw [List.getElem?_set_ne (Ne.symm hk)]; exact hn2, (same d (aNe d _ gd (by intro q; cases q; exact hk rfl))).trans hd2, e1, e2, C, e3⟩
    · by_cases z : b = a
      · rw [z, hH']; exact ⟨_, upd_same⟩
      · rw [same b z]
        cases new with
        | v h => exact rel.hp.live b q (dropG_of gb).1
        | @own C b' g h0 h =>
          by_cases y : b = b'
          · subst y; exact h.there
          · rw [setG_ne y] at gb; exact rel.hp.live b q (dropG_of gb).1
  have since : ∀ Gs Hs, Evo (· < F.base) Gs Hs G H → (∀ b, sv.casesOn (fun _ => False) (fun _ => v = .ref b) → Hs b = none) → Evo (· < F.base) Gs Hs G' H' := fun Gs Hs e hb => by
    have e1 := e.trans ev0
    cases new with
    | v h => exact e1
    | own g h0 h => exact e1.setr (hb _ rfl) (dropG_none g)
  refine ⟨⟨hr, rel.len, env_keep m rel.env fun d i g => ⟨(r1 _ _ (by simp)).mpr g, same d (aNe d _ g (by simp))⟩, since _ _ rel.since fun b q => ?_, rel.base, by simpa using rel.le, rel.ent⟩, since⟩
  cases new with
  | v h => exact q.elim
  | own g h0 h => cases q; exact h0
end
end Mi
set_option Elab.async false
set_option linter.all false
set_option maxRecDepth 100000
set_option maxHeartbeats 4000000
namespace Mi
open PySem PySem.Spec PyProof.Rows L2
section
variable {X : Cx} {R : RC} {W : WX} {F : FI} {σ : L2.St} {G G1 : Gh} {H H1 : Hp} {s s1 : MS} {pos pos' : Pos} {e o : Expr} {nm : Str} {c j : Nat}
def mFld (c j : Nat) (f : ME) : ME := fun s => (f s).bind fun r s1 => match r with
  | .v (.ref n) => match s1.hp[n]? with
    | some (.inst c' fs) => if c' = c then (match fs[j]? with
      | some (some (.v x)) => .ok (.v x) s1
      | some (some (.own _)) => .ok (.fld n j) s1
      | _ => .bad) else .bad
    | _ => .bad
  | _ => .bad
theorem obj_at {n : Nat} {Hs : Hp} {v : V} {c : Nat} {fs : List (Option SV)} (rel : Rel R F G s σ H) (rr : RR R σ Hs G H (.v (.ref n)) v) (hn : s.hp[n]? = some (.inst c fs)) : ∃ a dx hfs, v = .ref a ∧ G a = some (.obj n) ∧ H a = some (.ins (R.cls c) dx hfs) ∧ InsF R G H n c fs hfs := by
  have rr : VR R.K G H (.ref n) v := rr
  unfold VR at rr
  obtain ⟨a, rfl, ga⟩ := rr
  obtain ⟨a', ga', dx, hfs, ha, q⟩ := rel.hp.objs n _ hn
  have ea := rel.hp.uniq _ _ _ ga ga'
  subst ea
  exact ⟨a, dx, hfs, rfl, ga, ha, q⟩
theorem je_fld {f : ME} (c j : Nat) (hc : Cls X.K (R.cls c)) (hno : NoAttr X.K (R.cls c) nm) (he : JE X R W e f) (hj : (R.flds c)[j]? = some nm := by rfl) (hb : attributeBase e nm X.env (eval e X.env) = eval e X.env := by rfl) : JE X R W (.Attribute e nm pos) (mFld c j f) := fun hK F =>
  PE.imp (pe_fld (he hK F) hb) fun σ H Q h => by
    refine (first (M := rlE) h).mono fun x H1 ⟨G, r, s1, G1, w, rr, o⟩ => ?_
    have rr : RR R σ H G1 H1 r x := rr
    split at o
    · rename_i n
      split at o
      · rename_i c' fs hn
        split at o
        · rename_i ec
          subst ec
          obtain ⟨a, dx, hfs, rfl, ga, ha, hlen, hf, _⟩ := obj_at w.rel rr hn
          have q := hf j nm hj
          split at o
          · rename_i y hy
            rw [hy] at q
            obtain ⟨v, hv, vr⟩ := q
            exact ⟨a, _, dx, hfs, v, rfl, ha, hc, hno, hv, finV w o vr⟩
          · rename_i C hy
            rw [hy] at q
            obtain ⟨b, hv, gb, _⟩ := q
            exact ⟨a, _, dx, hfs, _, rfl, ha, hc, hno, hv, o _ _ _ w.rel w.evo ⟨b, rfl, gb⟩⟩
          · exact o.elim
        · exact o.elim
      · exact o.elim
    · exact o.elim
theorem share_hp {r : RV} {x : MV} {s2 : MS} (q : share r s1 = .ok x s2) : s2.hp = s1.hp ∧ s2.base = s1.base := by
  cases r with
  | v y => cases q; exact ⟨rfl, rfl⟩
  | own c =>
    simp only [share] at q
    split at q
    · cases q
    · cases q; exact ⟨rfl, rfl⟩
  | loc i =>
    simp only [share] at q
    split at q
    · split at q
      · cases q
      · cases q; exact ⟨rfl, rfl⟩
    · cases q
  | fld n f => cases q
def putFldS (c j n : Nat) (r : RV) (s : MS) : Out Fl := match s.hp[n]? with
  | some (.inst c' fs) => if c' = c ∧ (noOwn fs[j]? = true ∨ s.base ≤ n) then (match r with
    | .own C => .ok .next { s with hp := s.hp.set n (.inst c (fs.set j (some (.own C)))) }
    | r => (share r s).bind fun x s2 => .ok .next { s2 with hp := s2.hp.set n (.inst c (fs.set j (some (.v x)))) }) else .bad
  | _ => .bad
def mSetFld (c j : Nat) (fe fo : ME) : MSt := fun s => (fe s).bind fun r s1 => (fo s1).bind fun ro s2 => match ro with
  | .v (.ref n) => putFldS c j n r s2
  | _ => .bad
theorem js_fld {fe fo : ME} (c j : Nat) (hc : Cls X.K (R.cls c)) (hno : NoAttr X.K (R.cls c) nm) (he : JE X R W e fe) (ho : JE X R W o fo) (hj : (R.flds c)[j]? = some nm := by rfl) (nd : (R.flds c).Nodup := by decide) (hl : (R.flds c).length < 1000 := by decide)
    (hs : swapsWith e (some (.Attribute o nm pos')) pos.line X.env = pure false := by rfl) : JS X R W (.Assign [.Attribute o nm pos'] e pos) (mSetFld c j fe fo) := fun hK F =>
  PS.imp (ps_fld (ho hK F) (he hK F) hs) fun D σ H h => by
    refine (firstS (M := rlE) h).mono fun y H1 ⟨G, r, s1, G1, w, rr, o⟩ => ?_
    refine (nextS (M := rlE) w o).mono fun x H2 ⟨ro, s2, G2, w2, e12, rx, o2⟩ => ?_
    have rr : RR R σ H G1 H1 r y := rr
    have rx : RR R σ H G2 H2 ro x := rx
    have rr2 := rr.mono e12
    split at o2
    · rename_i n rx0
      unfold putFldS at o2
      split at o2
      · rename_i c' fs hn
        split at o2
        · rename_i hcc
          obtain ⟨rfl, hold⟩ := hcc
          obtain ⟨a, _, _, rfl, ga, _⟩ := obj_at w2.rel rx hn
          have shared : OutS R F W G H ((share r s2).bind fun x s2 => .ok .next { s2 with hp := s2.hp.set n (.inst c' (fs.set j (some (.v x)))) }) D →
              ∃ a' C dx fs', V.ref a = .ref a' ∧ H2 a' = some (.ins C dx fs') ∧ Cls X.K C ∧ NoAttr X.K C nm ∧ fs'.length < 1000 ∧ D.nx σ (upd H2 a' (.ins C dx (putF nm y fs'))) := fun o2 => by
            cases q : share r s2 with
            | ok z s3 =>
              rw [q] at o2
              obtain ⟨G3, w3, m, vr⟩ := share_ok w2 rr2 q
              obtain ⟨e1, e2⟩ := share_hp q
              obtain ⟨dx, hfs, ha, hln, rel, evo⟩ := setFld_ok (sv := .v z) w3.rel (m.ob a n ga) (by rw [e1]; exact hn) hj nd (by rw [← w3.rel.base, e2]; exact hold) (.v vr)
              exact ⟨a, _, dx, hfs, rfl, ha, hc, hno, Nat.lt_of_le_of_lt hln hl, o2 _ _ _ rel (evo _ _ w3.evS fun b q => q.elim)⟩
            | exc c xs s3 => exact absurd q share_noexc
            | bad => rw [q] at o2; exact o2.elim
          cases r with
          | own C =>
            obtain ⟨b, rfl, hb, gb, cr⟩ := rr2
            obtain ⟨dx, hfs, ha, hln, rel, evo⟩ := setFld_ok (sv := .own C) w2.rel ga hn hj nd (by rw [← w2.rel.base]; exact hold) (.own gb (fresh_back w2.st hb) cr)
            exact ⟨a, _, dx, hfs, rfl, ha, hc, hno, Nat.lt_of_le_of_lt hln hl, o2 _ _ _ rel (evo _ _ w2.evS fun b' q => by cases q; exact hb)⟩
          | v z => exact shared o2
          | loc i => exact shared o2
          | fld n f => exact shared o2
        · exact o2.elim
      · exact o2.elim
    · exact o2.elim
/-! methods -/
variable {f : Addr} {fd : FuncData} {ps : List Str} {n k : Nat} {run : Fn} {m : Str} {apos : Pos} {es : List Expr}
def mMeth (c : Nat) (run : Fn) (n : Nat) (fo : ME) (fa : MS → Out (List MV)) : ME := fun s => (fo s).bind fun r s1 => match r with
  | .v (.ref q) => match s1.hp[q]? with
    | some (.inst c' _) => if c' = c then (fa s1).bind fun xs s2 => if xs.length + 1 = n then mRun run (.ref q :: xs) s2 else .bad else .bad
    | _ => .bad
  | _ => .bad
theorem je_meth {pl : Sem Bool} {fo : ME} {fa : MS → Out (List MV)} (c : Nat) (hc : Cls X.K (R.cls c)) (hm : Meth X.K (R.cls c) m f) (Fo : FnOk X.prog X.w X.K X.mg X.base (L2.CX X.prog X.w) k f fd ps (spF R n run)) (tk : Takes X W) (hr : Room k X.A) (hb : Binds X.K fd ps [])
    (ho : JE X R W o fo) (ha : JAs X R W (e :: es) fa) (hnm : m ∉ R.flds c := by decide) (hst : starEach (e :: es) X.env = (false, eval e X.env) :: starEach es X.env := by rfl) (hpl : (backTo pos (starEach es X.env)).any (·.1) = false := by rfl)
    (ht : eval (.Call (.Attribute o m apos) (e :: es) [] pos) X.env = (do
      let ov ← eval o X.env
      standAt apos.atName
      let (f, first) ← holding [ov] (getMethod ov m pl)
      callWith pos f first (backTo pos (starEach (e :: es) X.env)) (backToKw pos (keywordEach [] X.env))) := by rfl) : JE X R W (.Call (.Attribute o m apos) (e :: es) [] pos) (mMeth c run n fo fa) := fun hK F => by
  refine ⟨fun pins s σ H Q I h => ?_⟩
  refine PySem.W.methodCall_KW (pl := pl) (thn ((ho hK F).run pins s σ H _ I (first (M := rlE) h)) fun u s1 ⟨x, H1, I1, rx, G, r, m1, G1, w, rr, o⟩ => ?_) ht
  have rr : RR R σ H G1 H1 r x := rr
  split at o
  · rename_i q rr0
    split at o
    · rename_i c' fs hn
      split at o
      · rename_i ec
        subst ec
        obtain ⟨a, dx, hfs, rfl, ga, ha1, _, _, hno, _⟩ := obj_at w.rel rr hn
        obtain rfl : u = Value.ref a := rx
        refine getmeth_ok I1 ha1 hc hm (hno m hnm) ?_
        refine PySem.W.callWith_K (first := [.ref a]) (h₀ := X.base) I.ok.mod.kin hm.kp (thn ((ha hK F).run pos pins s1 σ H1 _ I1 (next (M := rlS) w o)) fun us s2 ⟨vs, H2, I2, r2, xs, m2, G2, w2, e12, rr2, o2⟩ => ⟨I2.kIn, ?_⟩) hst hpl
        have rr2 : VRs R.K G2 H2 xs vs := rr2
        split at o2
        · rename_i hl
          have vr : VR R.K G2 H2 (.ref q) (.ref a) := VR.mono e12.mo _ _ (show VR R.K G1 H1 (.ref q) (.ref a) from rr)
          have sp := run_sp (xs := .ref q :: xs) (n := n) w2 (VRs.cons vr rr2) (by simpa using hl) o2
          exact run_all (us := .ref a :: us) (vs := .ref a :: vs) (E := WE W) Fo hr hb (passAt tk σ) I2 (.cons rfl r2) sp
        · exact o2.elim
      · exact o.elim
    · exact o.elim
  · exact o.elim
theorem je_meth0 {pl : Sem Bool} {fo : ME} (c : Nat) (hc : Cls X.K (R.cls c)) (hm : Meth X.K (R.cls c) m f) (Fo : FnOk X.prog X.w X.K X.mg X.base (L2.CX X.prog X.w) k f fd ps (spF R 1 run)) (tk : Takes X W) (hr : Room k X.A) (hb : Binds X.K fd ps [])
    (ho : JE X R W o fo) (hnm : m ∉ R.flds c := by decide)
    (ht : eval (.Call (.Attribute o m apos) [] [] pos) X.env = (do
      let ov ← eval o X.env
      standAt apos.atName
      let (f, first) ← holding [ov] (getMethod ov m pl)
      callWith pos f first (backTo pos (starEach [] X.env)) (backToKw pos (keywordEach [] X.env))) := by rfl) : JE X R W (.Call (.Attribute o m apos) [] [] pos) (mMeth c run 1 fo (fun s => .ok [] s)) := fun hK F => by
  refine ⟨fun pins s σ H Q I h => ?_⟩
  refine PySem.W.methodCall_KW (pl := pl) (thn ((ho hK F).run pins s σ H _ I (first (M := rlE) h)) fun u s1 ⟨x, H1, I1, rx, G, r, m1, G1, w, rr, o⟩ => ?_) ht
  have rr : RR R σ H G1 H1 r x := rr
  split at o
  · rename_i q rr0
    split at o
    · rename_i c' fs hn
      split at o
      · rename_i ec
        subst ec
        obtain ⟨a, dx, hfs, rfl, ga, ha1, _, _, hno, _⟩ := obj_at w.rel rr hn
        obtain rfl : u = Value.ref a := rx
        refine getmeth_ok I1 ha1 hc hm (hno m hnm) ?_
        have sp := run_sp (xs := [.ref q]) (n := 1) w (VRs.cons (show VR R.K G1 H1 (.ref q) (.ref a) from rr) (VRs.nil (K := R.K))) rfl o
        exact PySem.W.callWith_K0 (first := [.ref a]) I1.kIn hm.kp (run_all (us := [.ref a]) (vs := [.ref a]) (E := WE W) Fo hr hb (passAt tk σ) I1 (.cons rfl .nil) sp)
      · exact o.elim
    · exact o.elim
  · exact o.elim
end
end Mi
set_option Elab.async false
set_option linter.all false
set_option maxRecDepth 100000
set_option maxHeartbeats 4000000
namespace Mi
open PySem PySem.Spec PyProof.Rows L2
section
variable {X : Cx} {R : RC} {W : WX} {F : FI} {σ : L2.St} {G G1 : Gh} {H H1 : Hp} {s s1 : MS} {pos pp : Pos} {e : Expr} {es : List Expr} {x : Str} {c n k : Nat} {f : Addr} {fd : FuncData} {ps : List Str} {run : Fn}
/-- a new instance in the mini heap -/
theorem make_way {p d : Addr} {C : Addr} (w : Way R F σ G H G1 H1 s1) (hC : R.cls c = C) (hp : H1 p = none) (hd : H1 d = none) (ne : d ≠ p) :
    Rel R F (setG G1 p (some (.obj s1.hp.length))) { s1 with hp := s1.hp ++ [.inst c (List.replicate (R.flds c).length none)] } σ (upd (upd H1 d (.own p)) p (.ins C d [])) ∧
    Evo EvT G H (setG G1 p (some (.obj s1.hp.length))) (upd (upd H1 d (.own p)) p (.ins C d [])) ∧ Mo G1 H1 (setG G1 p (some (.obj s1.hp.length))) (upd (upd H1 d (.own p)) p (.ins C d [])) := by
  subst hC
  have gp := w.rel.noRole hp
  have gd := w.rel.noRole hd
  have hpd : (upd H1 d (.own p)) p = none := by rw [upd_ne ne.symm]; exact hp
  have rel1 := w.rel.alloc (o := .own p) hd
  have rel2 := rel1.alloc (o := .ins (R.cls c) d []) hpd
  have hpH := fresh_back w.evo hp
  have hdH := fresh_back w.evo hd
  have hp0 := fresh_back w.st hpH
  have ev1 : Evo EvT G H G1 (upd H1 d (.own p)) := w.evo.updNew hdH gd
  have ev2 : Evo EvT G H G1 (upd (upd H1 d (.own p)) p (.ins (R.cls c) d [])) := ev1.updNew hpH gp
  have m1 : Mo G1 H1 G1 (upd H1 d (.own p)) := Mo.upd (by rw [gd]; simp)
  have m2 : Mo G1 (upd H1 d (.own p)) G1 (upd (upd H1 d (.own p)) p (.ins (R.cls c) d [])) := Mo.upd (by rw [gp]; simp)
  have m3 : Mo G1 (upd (upd H1 d (.own p)) p (.ins (R.cls c) d [])) (setG G1 p (some (.obj s1.hp.length))) (upd (upd H1 d (.own p)) p (.ins (R.cls c) d [])) := Mo.setr gp
  refine ⟨⟨rel2.hp.push gp ⟨_, upd_same⟩ ⟨d, [], upd_same, by simp, fun f nm e => ?_, fun _ _ => rfl, Nat.zero_le _, List.nodup_nil, fun _ h => by cases h⟩, rel2.len, env_keep m3 rel2.env fun b i g => ⟨by rw [setG_ne fun z => by rw [z, gp] at g; cases g]; exact g, rfl⟩, rel2.since.setr hp0 gp, rel2.base, Nat.le_trans rel2.le (by simp), rel2.ent⟩, ev2.setr hpH gp, (m1.trans m2).trans m3⟩
  have : (List.replicate (R.flds c).length (none : Option SV))[f]?.join = none := by
    rw [List.getElem?_replicate]
    split <;> rfl
  rw [this]
  rfl
def mMakeIn (c m : Nat) (run : Fn) (n : Nat) (xs : List MV) (s : MS) : Out RV := if xs.length + 1 = n then
    (mRun run (.ref s.hp.length :: xs) { s with hp := s.hp ++ [.inst c (List.replicate m none)] }).bind fun r s2 => match r with
      | .v .non => .ok (.v (.ref s.hp.length)) s2
      | _ => .bad
  else .bad
theorem make_sp {p d C : Addr} {xs : List MV} {vs : List V} {Q : VK} (w : Way R F σ G H G1 H1 s1) (hC : R.cls c = C) (r : VRs R.K G1 H1 xs vs) (o : OutX rlE R F W σ G H (mMakeIn c (R.flds c).length run n xs s1) Q) (hp : H1 p = none) (hd : H1 d = none) (ne : d ≠ p) :
    spF R n run (.ref p :: vs) (upd (upd H1 d (.own p)) p (.ins C d [])) (fun v H2 => v = .non ∧ Q (.ref p) H2) (WE W σ) := by
  obtain ⟨rel, ev, m⟩ := make_way w hC hp hd ne
  unfold mMakeIn at o
  split at o
  · rename_i hl
    have w2 : Way R F σ (setG G1 p (some (.obj s1.hp.length))) (upd (upd H1 d (.own p)) p (.ins C d [])) (setG G1 p (some (.obj s1.hp.length))) (upd (upd H1 d (.own p)) p (.ins C d [])) { s1 with hp := s1.hp ++ [.inst c (List.replicate (R.flds c).length none)] } := ⟨rel, .refl, rel.since⟩
    refine run_sp (xs := .ref s1.hp.length :: xs) (n := n) w2 (VRs.cons (by unfold VR; exact ⟨p, rfl, setG_same⟩) (VRs.mono m _ _ r)) (by simpa using hl) ?_
    cases q : mRun run (.ref s1.hp.length :: xs) { s1 with hp := s1.hp ++ [.inst c (List.replicate (R.flds c).length none)] } with
    | ok rv s2 =>
      rw [q] at o
      intro G' H' v rel' ev' rr
      have rr : RR R σ _ G' H' rv v := rr
      simp only [Out.bind_ok] at o
      split at o
      · cases RR.non rr
        refine ⟨rfl, o _ _ _ rel' (ev.trans ev') ?_⟩
        show VR _ _ _ _ _
        unfold VR
        exact ⟨p, rfl, ev'.ob p _ setG_same⟩
      · exact o.elim
    | exc c ys s2 =>
      rw [q] at o
      exact fun G' H' cls d rel' ev' x => o G' H' cls d rel' (ev.trans ev') x
    | bad => rw [q] at o; exact o.elim
  · exact o.elim
theorem run_makeSD {pins : List (Addr × Obj)} {H : Hp} {s : Shared} {Q : VK} {us : List Value} {vs : List V} {C : Addr} {sp : Sp} {E : L2.St → XK} (M : Mk X.K C f) (Fo : FnOk X.prog X.w X.K X.mg X.base (L2.CX X.prog X.w) k f fd ps sp) (hr : Room (k + 1) X.A) (hb : Binds X.K fd ps [])
    (hx : PassesAt (L2.CX X.prog X.w) X σ (E σ)) (I : Inv X pins σ H s) (r : Vals vs us)
    (h : ∀ p d, H p = none → H d = none → d ≠ p → sp (.ref p :: vs) (upd (upd H d (.own p)) p (.ins C d [])) (fun v H2 => v = .non ∧ Q (.ref p) H2) (E σ)) :
    wpAny (model X.prog X.w) X.A (call (.ref C) us) (EP X pins σ Q) X.xe s := by
  have hq := h (s.heap.objs.size + 1) s.heap.objs.size (I.hok.fresh (Nat.le_succ _)) (I.hok.fresh (Nat.le_refl _)) (Nat.ne_of_lt (Nat.lt_succ_self _))
  have I2 := Inv.made (C := C) I
  have r2 : Vals (V.ref (s.heap.objs.size + 1) :: vs) (Value.ref (s.heap.objs.size + 1) :: us) := .cons rfl r
  have hl : ((Value.ref (s.heap.objs.size + 1) :: us) ++ ([] : List Value)).length = ps.length := by
    rw [List.append_nil, ← r2.length]; exact Fo.len _ _ _ _ hq
  have hb2 := hb _ (Value.ref (s.heap.objs.size + 1) :: us) I2.kIn hl
  rw [List.append_nil] at hb2
  refine wpAny_call (make_map (f := f) I.kIn M.makes M.init (beq_iff_eq.mp M.fn) (codeAny_mono (Fo.run _ X.stack _ _ ⟨Value.ref (s.heap.objs.size + 1) :: us, []⟩ (Value.ref (s.heap.objs.size + 1) :: us) _ _ (E σ) (hr.make C us [])
    (I2.env0.make C us []) hb2 r2 hq) fun r s' hq' => ?_))
  cases r with
  | error e => exact hx pins _ _ e s' I2 hq'
  | ok fl =>
    cases fl with
    | ret u =>
      obtain ⟨v, H', I3, rv, ev, q3⟩ := I2.after hq'
      subst ev
      exact ⟨rv, ⟨V.ref (s.heap.objs.size + 1), H', I3, rfl, q3⟩⟩
    | next => exact False.elim hq'
    | brk => exact False.elim hq'
    | cont => exact False.elim hq'
def mMake (c m : Nat) (run : Fn) (n : Nat) (fa : MS → Out (List MV)) : ME := fun s => (fa s).bind (mMakeIn c m run n)
theorem je_make {fa : MS → Out (List MV)} (c : Nat) (M : Mk X.K (R.cls c) f) (Fo : FnOk X.prog X.w X.K X.mg X.base (L2.CX X.prog X.w) k f fd ps (spF R n run)) (tk : Takes X W) (hr : Room (k + 1) X.A) (hm : X.mg x = some (.ref (R.cls c))) (hb : Binds X.K fd ps [])
    (ha : JAs X R W (e :: es) fa) {m : Nat} (hmm : (R.flds c).length = m := by rfl) (hg : Gl X x := by rfl) (hdb : (x == ("__debug__" : Str)) = false := by decide) (he : starEach (e :: es) X.env = (false, eval e X.env) :: starEach es X.env := by rfl) (hpl : (backTo pos (starEach es X.env)).any (·.1) = false := by rfl) :
    JE X R W (.Call (.Name x pp) (e :: es) [] pos) (mMake c m run n fa) := fun hK F => by
  subst hmm
  refine ⟨fun pins s σ H Q I h => ?_⟩
  refine wpAny_Call_Name_kw (ld_glob I hg hm ?_ hdb)
  refine PySem.W.callWith_K (h₀ := X.base) I.ok.mod.kin M.kp (thn ((ha hK F).run pos pins s σ H _ I (first (M := rlS) h)) fun us s1 ⟨vs, H1, I1, r, G, xs, m1, G1, w, rr, o⟩ => ⟨I1.kIn, ?_⟩) he hpl
  exact run_makeSD (E := WE W) M Fo hr hb (passAt tk σ) I1 r fun p d hp hd ne => make_sp w rfl rr o hp hd ne
theorem je_make0 (c : Nat) (M : Mk X.K (R.cls c) f) (Fo : FnOk X.prog X.w X.K X.mg X.base (L2.CX X.prog X.w) k f fd ps (spF R 1 run)) (tk : Takes X W) (hr : Room (k + 1) X.A) (hm : X.mg x = some (.ref (R.cls c))) (hb : Binds X.K fd ps [])
    {m : Nat} (hmm : (R.flds c).length = m := by rfl) (hg : Gl X x := by rfl) (hdb : (x == ("__debug__" : Str)) = false := by decide) :
    JE X R W (.Call (.Name x pp) [] [] pos) (mMake c m run 1 (fun s => .ok [] s)) := fun hK F => by
  subst hmm
  refine ⟨fun pins s σ H Q I h => ?_⟩
  refine wpAny_Call_Name_kw (ld_glob I hg hm ?_ hdb)
  obtain ⟨G, s1, rel, o⟩ := h
  have w : Way R F σ G H G H s1 := ⟨rel, .refl, rel.since⟩
  exact PySem.W.callWith_K0 I.kIn M.kp (run_makeSD (us := []) (vs := []) (E := WE W) M Fo hr hb (passAt tk σ) I .nil fun p d hp hd ne => make_sp (xs := []) w rfl (VRs.nil (K := R.K)) o hp hd ne)
end
end Mi
set_option Elab.async false
set_option linter.all false
set_option maxRecDepth 100000
set_option maxHeartbeats 4000000
namespace Mi
open PySem PySem.Spec PyProof.Rows L2
section
variable {X : Cx} {R : RC} {W : WX} {F : FI} {σ : L2.St} {G G1 : Gh} {H H1 : Hp} {s s1 : MS} {pos pos' : Pos} {e o : Expr} {nm : Str} {c j : Nat}
/-! while -/
def whGo (ft : MS → Out Bool) (fb : MSt) : Nat → MS → Out Fl
  | 0, _ => .bad
  | n + 1, s => (ft s).bind fun b s1 => if b = true then (fb s1).bind fun fl s2 => match fl with
      | .next => whGo ft fb n s2
      | .ret r => .ok (.ret r) s2 else .ok .next s1
open Classical in
noncomputable def mWhile (ft : MS → Out Bool) (fb : MSt) : MSt := fun s => if h : ∃ n, whGo ft fb n s ≠ .bad then whGo ft fb h.choose s else .bad
theorem whGo_step {ft : MS → Out Bool} {fb : MSt} : ∀ (n : Nat) (s : MS), whGo ft fb n s ≠ .bad → whGo ft fb (n + 1) s = whGo ft fb n s
  | 0, s, h => absurd rfl h
  | n + 1, s, h => by
    unfold whGo at h ⊢
    cases q : ft s with
    | bad => rfl
    | exc c xs s1 => rfl
    | ok b s1 =>
      rw [q] at h
      simp only [Out.bind_ok] at h ⊢
      cases b with
      | false => rfl
      | true =>
        simp only [if_true] at h ⊢
        cases q2 : fb s1 with
        | bad => rfl
        | exc c xs s2 => rfl
        | ok fl s2 =>
          rw [q2] at h
          cases fl with
          | next => exact whGo_step n s2 h
          | ret r => rfl
theorem whGo_le {ft : MS → Out Bool} {fb : MSt} {n : Nat} {s : MS} (h : whGo ft fb n s ≠ .bad) : ∀ k, whGo ft fb (n + k) s = whGo ft fb n s
  | 0 => rfl
  | k + 1 => by
    have ih := whGo_le h k
    rw [← Nat.add_assoc, whGo_step (n + k) s (by rw [ih]; exact h), ih]
theorem while_eq {ft : MS → Out Bool} {fb : MSt} {n : Nat} {s : MS} (h : whGo ft fb n s ≠ .bad) : mWhile ft fb s = whGo ft fb n s := by
  have hx : ∃ n, whGo ft fb n s ≠ .bad := ⟨n, h⟩
  unfold mWhile
  rw [dif_pos hx]
  have h2 := hx.choose_spec
  rcases Nat.le_total n hx.choose with q | q
  · obtain ⟨k, e⟩ := Nat.exists_eq_add_of_le q
    rw [e]; exact whGo_le h k
  · obtain ⟨k, e⟩ := Nat.exists_eq_add_of_le q
    have := whGo_le h2 k
    rw [← e] at this
    exact this.symm
theorem js_while {t : Expr} {body : List Stmt} {ft : MS → Out Bool} {fb : MSt} (hp : PassesOwn (model X.prog X.w) X.A X.env X.xe) (hc : JT X R W t ft) (hb : JB X R W body fb) : JS X R W (.While t body [] pos) (mWhile ft fb) := fun hK F =>
  PS.imp (ps_while hp (hc hK F) (hb hK F)) fun D σ H ⟨G, s, rel, o⟩ => by
    obtain ⟨m, hm⟩ : ∃ m, OutS R F W G H (whGo ft fb m s) D := by
      unfold mWhile at o
      split at o
      · exact ⟨_, o⟩
      · exact o.elim
    refine ⟨fun m σ' H' => ∃ G2 s2, Rel R F G2 s2 σ' H' ∧ Evo (· < F.base) G H G2 H' ∧ OutS R F W G H (whGo ft fb m s2) D, ⟨m, G, s, rel, .refl, hm⟩, ?_⟩
    rintro m σ' H' ⟨G2, s2, rel2, ev2, o2⟩
    cases m with
    | zero => exact o2.elim
    | succ n =>
      unfold whGo at o2
      refine ⟨G2, s2, rel2, ?_⟩
      cases q : ft s2 with
      | bad => rw [q] at o2; exact o2.elim
      | exc c xs s3 => rw [q] at o2; exact fun G' H'' cls d rel' ev e => o2 G' σ' H'' cls d rel' (ev2.trans (ev.weak fun _ _ => trivial)) e
      | ok b s3 =>
        rw [q] at o2
        intro G3 H3 b' rel3 ev3 eb
        have eb : b' = b := eb
        subst eb
        have ev23 : Evo (· < F.base) G H G3 H3 := ev2.trans (ev3.weak fun _ _ => trivial)
        simp only [Out.bind_ok] at o2
        cases b' with
        | false =>
          rw [if_neg (by simp)] at o2 ⊢
          exact o2 G3 σ' H3 rel3 ev23
        | true =>
          rw [if_pos rfl] at o2 ⊢
          refine ⟨fun σ4 H4 => ∃ G4 s4, Rel R F G4 s4 σ4 H4 ∧ Evo (· < F.base) G H G4 H4 ∧ OutS R F W G H (whGo ft fb n s4) D, fun σ4 H4 ⟨G4, s4, r4, e4, o4⟩ => ⟨n, Nat.lt_succ_self n, G4, s4, r4, e4, o4⟩, G3, s3, rel3, ?_⟩
          cases q2 : fb s3 with
          | bad => rw [q2] at o2; exact o2.elim
          | exc c xs s4 => rw [q2] at o2; exact fun G' σ5 H5 cls d r5 ev5 x => o2 G' σ5 H5 cls d r5 (ev23.trans ev5) x
          | ok fl s4 =>
            rw [q2] at o2
            cases fl with
            | next => exact fun G' σ5 H5 rel5 ev5 => ⟨G', s4, rel5, ev23.trans ev5, o2⟩
            | ret r => exact o2
/-! op= -/
def opIAdd (r1 r2 : RV) (s : MS) : Out RV := match r1, r2 with
  | .v (.int i), .v (.int j) => .ok (.v (.int (i + j))) s
  | .v (.str a), .v (.str b) => if a.length + b.length ≤ sizeLine then .ok (.v (.str (a ++ b))) s else .bad
  | _, _ => .bad
def rIAdd : R2 := fun x y H Q => rI0 (fun i j => .int (i + j)) x y H Q ∨ ∃ i j, x = .str i ∧ y = .str j ∧ i.length + j.length ≤ sizeLine ∧ Q (.str (i ++ j)) H
theorem op_iadd : OpR X (inplaceOp .Add) rIAdd := OpR.or iop_add iop_add_str
theorem pr_iadd : PrimR R rIAdd opIAdd := fun {F W σ G H G2 H2 s2 r1 r2 x y Q} w h1 h2 o => by
  unfold opIAdd at o
  split at o
  · cases RR.int h1; cases RR.int h2
    exact .inl ⟨_, _, rfl, rfl, finI w o⟩
  · cases RR.str h1; cases RR.str h2
    split at o
    · rename_i hz
      refine .inr ⟨_, _, rfl, rfl, ?_, finS w o ?_⟩
      · simpa [PySem.Str.length] using hz
      · exact Array.toList_append.trans (by simp only [List.toList_toArray])
    · exact o.elim
  · exact o.elim
theorem pr_isub : PrimR R (rI0 fun i j => .int (i - j)) opSub := pr_sub
def mAug (i : Nat) (p : RV → RV → MS → Out RV) (fe : ME) : MSt := fun s => match s.env[i]? with
  | some (some (.v x)) => (fe s).bind fun r s1 => (p (.v x) r s1).bind fun z s2 => putSlot i z s2
  | _ => .bad
theorem js_aug {i : Nat} {x : Str} {op : Operator} {fe : ME} {r : R2} {p : RV → RV → MS → Out RV} (hN : X.N.Nodup) (hop : OpR X (inplaceOp op) r) (pr : PrimR R r p) (he : JE X R W e fe) (hi : X.N[i]? = some x := by rfl) (hx : Loc X.env.scope x := by first | exact Or.inl rfl | exact Or.inr rfl)
    (hf : X.fn x = true ∨ X.env.scope.names.lookup x = some .local := by first | exact .inl rfl | exact .inr rfl) : JS X R W (.AugAssign (.Name x pos') op e pos) (mAug i p fe) := fun hK F =>
  PS.imp (ps_aug hN hi hx (he hK F) hop hf) fun D σ H ⟨G, s, rel, o⟩ => by
    unfold mAug at o
    split at o
    · rename_i x0 hx0
      obtain ⟨v, hv, vr⟩ := rel.env i _ hx0
      have vr : VR R.K G H x0 v := vr
      refine ⟨v, hv, ?_⟩
      have w0 : Way R F σ G H G H s := ⟨rel, .refl, rel.since⟩
      refine (nextS (M := rlE) w0 o).mono fun y H1 ⟨r1, s1, G1, w, e1, rr, o1⟩ => ?_
      have rx : RR R σ H G1 H1 (.v x0) v := VR.mono e1.mo _ _ vr
      refine pr w rx rr (W := W) ?_
      cases q : p (.v x0) r1 s1 with
      | ok z s2 =>
        rw [q] at o1
        intro G2 H2 zv rel2 ev2 rz
        exact putSlot_ok ⟨rel2, ev2, w.st⟩ rz o1
      | exc c xs s2 => rw [q] at o1; exact fun G' H' cls d rel' ev e => o1 G' σ H' cls d rel' (ev.weak fun _ _ => trivial) e
      | bad => rw [q] at o1; exact o1
    · exact o.elim
/-- a field is written: what the rule asks -/
theorem putFldS_ok {n : Nat} {r : RV} {y : V} {a : Addr} {D : Ends} (w : Way R F σ G H G1 H1 s1) (rr : RR R σ H G1 H1 r y) (ra : VR R.K G1 H1 (.ref n) (.ref a)) (hj : (R.flds c)[j]? = some nm) (nd : (R.flds c).Nodup) (o : OutS R F W G H (putFldS c j n r s1) D) :
    ∃ dx hfs, H1 a = some (.ins (R.cls c) dx hfs) ∧ hfs.length ≤ (R.flds c).length ∧ D.nx σ (upd H1 a (.ins (R.cls c) dx (putF nm y hfs))) := by
  unfold putFldS at o
  split at o
  · rename_i c' fs hn
    split at o
    · rename_i hcc
      obtain ⟨rfl, hold⟩ := hcc
      obtain ⟨a', _, _, ea, ga, _⟩ := obj_at (Hs := H) w.rel (show RR R σ H G1 H1 (.v (.ref n)) (.ref a) from ra) hn
      cases ea
      have shared : OutS R F W G H ((share r s1).bind fun x s2 => .ok .next { s2 with hp := s2.hp.set n (.inst c' (fs.set j (some (.v x)))) }) D →
          ∃ dx hfs, H1 a = some (.ins (R.cls c') dx hfs) ∧ hfs.length ≤ (R.flds c').length ∧ D.nx σ (upd H1 a (.ins (R.cls c') dx (putF nm y hfs))) := fun o => by
        cases q : share r s1 with
        | ok z s3 =>
          rw [q] at o
          obtain ⟨G3, w3, m, vr⟩ := share_ok w rr q
          obtain ⟨e1, e2⟩ := share_hp q
          obtain ⟨dx, hfs, ha, hln, rel, evo⟩ := setFld_ok (sv := .v z) w3.rel (m.ob a n ga) (by rw [e1]; exact hn) hj nd (by rw [← w3.rel.base, e2]; exact hold) (.v vr)
          exact ⟨dx, hfs, ha, hln, o _ _ _ rel (evo _ _ w3.evS fun b q => q.elim)⟩
        | exc c xs s3 => exact absurd q share_noexc
        | bad => rw [q] at o; exact o.elim
      cases r with
      | own C =>
        obtain ⟨b, rfl, hb, gb, cr⟩ := rr
        obtain ⟨dx, hfs, ha, hln, rel, evo⟩ := setFld_ok (sv := .own C) w.rel ga hn hj nd (by rw [← w.rel.base]; exact hold) (.own gb (fresh_back w.st hb) cr)
        exact ⟨dx, hfs, ha, hln, o _ _ _ rel (evo _ _ w.evS fun b' q => by cases q; exact hb)⟩
      | v z => exact shared o
      | loc i => exact shared o
      | fld n f => exact shared o
    · exact o.elim
  · exact o.elim
/-- o.f op= e, of a value -/
def mAugFld (c j : Nat) (p : RV → RV → MS → Out RV) (fo fe : ME) : MSt := fun s => (fo s).bind fun ro s0 => match ro with
  | .v (.ref n) => match s0.hp[n]? with
    | some (.inst c' fs) => if c' = c then (match fs[j]? with
      | some (some (.v x)) => (fe s0).bind fun r s2 => if isScal (.v x) = true ∧ isScal r = true then (p (.v x) r s2).bind fun z s3 => putFldS c j n z s3 else .bad
      | _ => .bad) else .bad
    | _ => .bad
  | _ => .bad
theorem js_augfld {op : Operator} {fo fe : ME} {r : R2} {p : RV → RV → MS → Out RV} (c j : Nat) (hc : Cls X.K (R.cls c)) (hno : NoAttr X.K (R.cls c) nm) (hop : OpR X (inplaceOp op) r) (pr : PrimR R r p) (ho : JE X R W o fo) (he : JE X R W e fe) (hj : (R.flds c)[j]? = some nm := by rfl) (nd : (R.flds c).Nodup := by decide) (hl : (R.flds c).length < 1000 := by decide) :
    JS X R W (.AugAssign (.Attribute o nm pos') op e pos) (mAugFld c j p fo fe) := fun hK F =>
  PS.imp (ps_fldaug (ho hK F) (he hK F) hop) fun D σ H h => by
    refine (firstS (M := rlE) h).mono fun x H1 ⟨G, ro, s1, G1, w, rx, o⟩ => ?_
    have rx : RR R σ H G1 H1 ro x := rx
    split at o
    · rename_i n rx0
      split at o
      · rename_i c' fs hn
        split at o
        · rename_i ec
          subst ec
          obtain ⟨a, dx, hfs, rfl, ga, ha, hlen, hf, _⟩ := obj_at w.rel rx hn
          have q := hf j nm hj
          split at o
          · rename_i y hy
            rw [hy] at q
            obtain ⟨v, hv, vr⟩ := q
            have vr : VR R.K G1 H1 y v := vr
            refine ⟨a, _, dx, hfs, v, rfl, ha, hc, hno, hv, ?_⟩
            refine (nextS (M := rlE) w o).mono fun z H2 ⟨r1, s2, G2, w2, e12, rr, o2⟩ => ?_
            have rv : RR R σ H G2 H2 (.v y) v := VR.mono e12.mo _ _ vr
            have ra : VR R.K G2 H2 (.ref n) (.ref a) := VR.mono e12.mo _ _ (show VR R.K G1 H1 (.ref n) (.ref a) from rx)
            split at o2
            · rename_i hsc
              have w3 : Way R F σ G2 H2 G2 H2 s2 := ⟨w2.rel, .refl, w2.rel.since⟩
              have rr : RR R σ H G2 H2 r1 z := rr
              refine pr w3 (rv.scal hsc.1) (rr.scal hsc.2) (W := W) ?_
              cases q2 : p (.v y) r1 s2 with
              | ok z s3 =>
                rw [q2] at o2
                intro G3 H3 zv rel3 ev3 rz
                have rz : RR R σ H2 G3 H3 z zv := rz
                obtain ⟨dx', hfs', ha', hln', nx⟩ := putFldS_ok (H := H) ⟨rel3, w2.evo.trans ev3, w2.st⟩ (rz.back w2.evo) (VR.mono ev3.mo _ _ ra) hj nd o2
                exact ⟨dx', hfs', ha', Nat.lt_of_le_of_lt hln' hl, nx⟩
              | exc c xs s3 => rw [q2] at o2; exact fun G' H' cls d rel' ev e => o2 G' σ H' cls d rel' (w2.evS.trans (ev.weak fun _ _ => trivial)) e
              | bad => rw [q2] at o2; exact o2
            · exact o2.elim
          · exact o.elim
        · exact o.elim
      · exact o.elim
    · exact o.elim
end
end Mi
set_option Elab.async false
set_option linter.all false
set_option maxRecDepth 100000
set_option maxHeartbeats 4000000
namespace Mi
open PySem PySem.Spec PyProof.Rows L2
section
variable {X : Cx}
def rDGetV : R2 := fun x y H Q => ∃ a v, x = .ref a ∧ DGet H a y (some v) ∧ Q v H
theorem ix_dict (hu : X.A.units + 1 < cLine) : IxR X rDGetV := by
  intro value slice pins s σ H x y v u Q I rx ry h hs
  obtain ⟨a, z, rfl, g, q⟩ := h
  cases rx
  exact tail_any (dict_typeIs I g) PySem.F.slot_dict_getitem.lookup (d_getItem hu I g ry fun w' s3 I3 rw' => ⟨z, H, I3, rw', q⟩) hs
theorem op_in_dict (hu : X.A.units + 1 < cLine) : OpR X (compareOp .In) (fun x y H Q => ∃ a o, y = .ref a ∧ DGet H a x o ∧ Q (.bl o.isSome) H) := by
  intro pins s σ H x y v u Q I rx ry h
  obtain ⟨a, o, rfl, g, q⟩ := h
  cases ry
  exact d_in hu I g rx fun s3 I3 => ⟨.bl o.isSome, H, I3, rfl, q⟩
theorem op_notIn_dict (hu : X.A.units + 1 < cLine) : OpR X (compareOp .NotIn) (fun x y H Q => ∃ a o, y = .ref a ∧ DGet H a x o ∧ Q (.bl (!o.isSome)) H) := by
  intro pins s σ H x y v u Q I rx ry h
  obtain ⟨a, o, rfl, g, q⟩ := h
  cases ry
  exact d_notIn hu I g rx fun s3 I3 => ⟨.bl (!o.isSome), H, I3, rfl, q⟩
def rSetDV : V → V → V → Hp → (Hp → Prop) → Prop := fun o i v H Q => ∃ a H', o = .ref a ∧ DPut H a i v H' ∧ Q H'
theorem set_dict (hu : X.A.units + 1 < cLine) : PSet X rSetDV := by
  intro pins s σ H o i v ov iv u Q I ro ri rv h
  obtain ⟨a, H', rfl, g, q⟩ := h
  cases ro
  exact d_setItem hu I g ri rv fun s3 I3 => ⟨H', I3, q⟩
/-- o[i] = v: a list's or a dict's -/
theorem set_any (hu : X.A.units + 1 < cLine) : PSet X (fun o i v H Q => rSetL o i v H Q ∨ rSetDV o i v H Q) := by
  intro pins s σ H o i v ov iv u Q I ro ri rv h
  rcases h with h | h
  · exact set_list pins s σ H o i v ov iv u Q I ro ri rv h
  · exact set_dict hu pins s σ H o i v ov iv u Q I ro ri rv h
end
/-! dicts of the mini layer: keys are ints and texts -/
def keyOf : MV → Option Key
  | .int i => some (.inl i)
  | .str z => some (.inr ⟨z.toArray⟩)
  | _ => none
theorem keyOf_V {K : PySem.W.Frag} {G : Gh} {H : Hp} {x : MV} {v : V} {k : Key} (h : VR K G H x v) (e : keyOf x = some k) : v = kV k ∧ keyMV k = x := by
  cases x with
  | int i => cases e; exact ⟨VR.int h, rfl⟩
  | str z => cases e; exact ⟨VR.str h, rfl⟩
  | _ => cases e
theorem keyMV_inj {a b : Key} (h : keyMV a = keyMV b) : a = b := by
  cases a with
  | inl i => cases b with
    | inl j => simp only [keyMV, MV.int.injEq] at h; rw [h]
    | inr y => simp [keyMV] at h
  | inr x => cases b with
    | inl j => simp [keyMV] at h
    | inr y =>
      obtain ⟨⟨x⟩⟩ := x
      obtain ⟨⟨y⟩⟩ := y
      simp only [keyMV, MV.str.injEq] at h
      cases h; rfl
/-- are two keys alike -/
def eqK : MV → MV → Bool
  | .int a, .int b => decide (a = b)
  | .str a, .str b => decide (a = b)
  | _, _ => false
theorem eqK_iff (a b : Key) : eqK (keyMV a) (keyMV b) = decide (a = b) := by
  by_cases h : a = b
  · subst h
    rw [decide_eq_true rfl]
    cases a <;> simp [keyMV, eqK]
  · rw [decide_eq_false h]
    cases a with
    | inl i => cases b with
      | inl j => simp only [keyMV, eqK]; exact decide_eq_false fun z => h (by rw [z])
      | inr y => rfl
    | inr x => cases b with
      | inl j => rfl
      | inr y => simp only [keyMV, eqK]; exact decide_eq_false fun z => h (keyMV_inj (by simp only [keyMV]; rw [z]))
def getK : List (MV × MV) → MV → Option MV
  | [], _ => none
  | (k', x) :: r, k => if eqK k' k = true then some x else getK r k
def setK (kvs : List (MV × MV)) (k x : MV) : List (MV × MV) := if (kvs.any fun p => eqK p.1 k) = true then kvs.map (fun p => if eqK p.1 k = true then (p.1, x) else p) else kvs ++ [(k, x)]
section
variable {K : PySem.W.Frag} {G : Gh} {H : Hp}
/-- the mini dict and the tracked one -/
def DD (K : PySem.W.Frag) (G : Gh) (H : Hp) (kvs : List (MV × MV)) (dk : List (Key × V)) : Prop := kvs.map (·.1) = dk.map (fun q => keyMV q.1) ∧ VRs K G H (kvs.map (·.2)) (dk.map (·.2))
theorem DD.inv {p : MV × MV} {kvs : List (MV × MV)} {dk : List (Key × V)} (h : DD K G H (p :: kvs) dk) : ∃ j v r, dk = (j, v) :: r ∧ p.1 = keyMV j ∧ VR K G H p.2 v ∧ DD K G H kvs r := by
  obtain ⟨h1, h2⟩ := h
  cases dk with
  | nil => simp at h1
  | cons q r =>
    simp only [List.map_cons, List.cons.injEq] at h1
    obtain ⟨v, t, e, p1, p2⟩ := VRs.inv (K := K) (G := G) (H := H) (by simpa using h2)
    simp only [List.map_cons, List.cons.injEq] at e
    obtain ⟨e1, e2⟩ := e
    subst e1 e2
    exact ⟨q.1, q.2, r, rfl, h1.1, p1, h1.2, p2⟩
theorem DD.nil {dk : List (Key × V)} (h : DD K G H [] dk) : dk = [] := by
  obtain ⟨h1, _⟩ := h
  cases dk with
  | nil => rfl
  | cons q r => simp at h1
theorem DD.cons {p : MV × MV} {kvs : List (MV × MV)} {j : Key} {v : V} {r : List (Key × V)} (e : p.1 = keyMV j) (hv : VR K G H p.2 v) (h : DD K G H kvs r) : DD K G H (p :: kvs) ((j, v) :: r) :=
  ⟨by simp [e, h.1], VRs.cons (K := K) (G := G) (H := H) hv h.2⟩
theorem DD.get : ∀ {kvs : List (MV × MV)} {dk : List (Key × V)} (k : Key), DD K G H kvs dk → (getK kvs (keyMV k) = none → valV dk k = none) ∧ ∀ x, getK kvs (keyMV k) = some x → ∃ v, valV dk k = some v ∧ VR K G H x v
  | [], dk, k, h => by
    rw [h.nil]
    exact ⟨fun _ => rfl, fun x e => by cases e⟩
  | p :: kvs, dk, k, h => by
    obtain ⟨j, v, r, rfl, e, hv, hr⟩ := h.inv
    obtain ⟨pk, px⟩ := p
    simp only at e hv
    subst e
    unfold getK
    rw [eqK_iff]
    by_cases z : j = k
    · rw [if_pos (decide_eq_true z), valV_pos (by exact z)]
      exact ⟨(fun q => by cases q), fun x q => by cases q; exact ⟨v, rfl, hv⟩⟩
    · rw [if_neg (by simpa using z), valV_neg (by exact z)]
      exact DD.get k hr
theorem DD.any : ∀ {kvs : List (MV × MV)} {dk : List (Key × V)} (k : Key), DD K G H kvs dk → (kvs.any fun p => eqK p.1 (keyMV k)) = dk.any fun q => decide (q.1 = k)
  | [], dk, k, h => by rw [h.nil]; rfl
  | p :: kvs, dk, k, h => by
    obtain ⟨j, v, r, rfl, e, hv, hr⟩ := h.inv
    simp only [List.any_cons, e, eqK_iff, DD.any k hr]
theorem DD.map : ∀ {kvs : List (MV × MV)} {dk : List (Key × V)} (k : Key) {x : MV} {u : V}, VR K G H x u → DD K G H kvs dk → DD K G H (kvs.map fun p => if eqK p.1 (keyMV k) = true then (p.1, x) else p) (dk.map fun q => if q.1 = k then (q.1, u) else q)
  | [], dk, k, x, u, _, h => by rw [h.nil]; exact ⟨rfl, VRs.nil (K := K) (G := G) (H := H)⟩
  | p :: kvs, dk, k, x, u, hu, h => by
    obtain ⟨j, v, r, rfl, e, hv, hr⟩ := h.inv
    simp only [List.map_cons, e, eqK_iff]
    by_cases z : j = k
    · rw [if_pos (decide_eq_true z), if_pos z]; exact .cons rfl hu (DD.map k hu hr)
    · rw [if_neg (by simpa using z), if_neg z]; exact .cons e hv (DD.map k hu hr)
theorem DD.put {kvs : List (MV × MV)} {dk : List (Key × V)} (k : Key) {x : MV} {u : V} (hu : VR K G H x u) (h : DD K G H kvs dk) : DD K G H (setK kvs (keyMV k) x) (putK dk k u) := by
  unfold setK putK
  rw [DD.any k h]
  split
  · exact DD.map k hu h
  · exact ⟨by simp [h.1], by
      rw [List.map_append, List.map_append]
      exact h.2.append (.cons hu (VRs.nil (K := K) (G := G) (H := H)))⟩
theorem DD.length {kvs : List (MV × MV)} {dk : List (Key × V)} (h : DD K G H kvs dk) : kvs.length = dk.length := by
  have := congrArg List.length h.1
  simpa using this
end
def dictOf (s : MS) (r : RV) : Option (List (MV × MV)) := match cont s r with | some (.dict kvs) => some kvs | some (.lock kvs) => some kvs | _ => none
section
variable {X : Cx} {R : RC} {W : WX} {F : FI} {σ : L2.St} {G G1 : Gh} {H H1 : Hp} {s s1 : MS} {pos : Pos} {k : Nat}
theorem dict_ok {Hs : Hp} {r : RV} {v : V} {kvs : List (MV × MV)} (rel : Rel R F G s σ H) (rr : RR R σ Hs G H r v) (e : dictOf s r = some kvs) : ∃ a dk, v = .ref a ∧ Rd H a (.dK dk) ∧ DD R.K G H kvs dk := by
  unfold dictOf at e
  split at e
  · rename_i ys c
    cases e
    obtain ⟨a, q, ho, h, dk, rfl, h1, h2⟩ := cont_ok rel rr c
    exact ⟨a, dk, q, .inl h, h1, h2⟩
  · rename_i ys c
    cases e
    obtain ⟨a, q, od, ho, h, dk, rfl, h1, h2⟩ := cont_ok rel rr c
    exact ⟨a, dk, q, .inr ⟨od, h⟩, h1, h2⟩
  · cases e
theorem DGet.rd {H : Hp} {a : Addr} {kvs : List (Key × V)} {k : Key} (e : Rd H a (.dK kvs)) : DGet H a (kV k) (valV kvs k) := .inl ⟨kvs, k, e, rfl, rfl⟩
/-- o[i]: of a dict, else of a list, a tuple, a text -/
def opIxA (r1 r2 : RV) (s : MS) : Out RV := match dictOf s r1 with
  | some kvs => match r2 with
    | .v k => match keyOf k with
      | some _ => match getK kvs k with | some x => .ok (.v x) s | none => .bad
      | none => .bad
    | _ => .bad
  | none => opIx r1 r2 s
theorem hu1 {A : Around} (hr : Room k A) : A.units + 1 < cLine := by have := hr.un; omega
theorem pr_ixA : PrimR R (fun x y H Q => (rIxL R.K x y H Q ∨ (rIxT R.K x y H Q ∨ rIxS x y H Q)) ∨ rDGetV x y H Q) opIxA := fun {F W σ G H G2 H2 s2 r1 r2 x y Q} w h1 h2 o => by
  unfold opIxA at o
  split at o
  · rename_i kvs hd
    obtain ⟨a, dk, rfl, ha, dd⟩ := dict_ok w.rel h1 hd
    split at o
    · split at o
      · rename_i kk hk
        obtain ⟨rfl, e⟩ := keyOf_V (K := R.K) (G := G2) (H := H2) h2 hk
        subst e
        split at o
        · rename_i z hz
          obtain ⟨v, hv, vr⟩ := (dd.get kk).2 z hz
          exact .inr ⟨a, v, rfl, by rw [← hv]; exact DGet.rd ha, finV w o vr⟩
        · exact o.elim
      · exact o.elim
    · exact o.elim
  · exact .inl (pr_ix w h1 h2 o)
theorem je_ixA {a b : Expr} {fa fb : ME} (hr : Room k X.A) (ha : JE X R W a fa) (hb : JE X R W b fb) (hs : PlainIx b := by intro _ _; rfl) : JE X R W (.Subscript a b pos) (mBin opIxA fa fb) := fun hK F =>
  PE.imp (pe_ix (ix_seq.or (ix_dict (hu1 hr))) (ha hK F) (hb hK F) hs) fun σ H Q h => by
    have e : (fun x y H Q => rIx X.K x y H Q ∨ rDGetV x y H Q) = fun x y H Q => (rIxL R.K x y H Q ∨ (rIxT R.K x y H Q ∨ rIxS x y H Q)) ∨ rDGetV x y H Q := by rw [hK]; rfl
    rw [e]
    exact tBin pr_ixA σ H Q h
/-- in, not in: of a dict, else as before -/
def opInA (neg : Bool) (r1 r2 : RV) (s : MS) : Out RV := match dictOf s r2 with
  | some kvs => match r1 with
    | .v k => match keyOf k with
      | some _ => .ok (.v (.bl (neg ^^ (getK kvs k).isSome))) s
      | none => .bad
    | _ => .bad
  | none => opIn neg r1 r2 s
theorem dget_some {kvs : List (MV × MV)} {dk : List (Key × V)} {K : PySem.W.Frag} (dd : DD K G H kvs dk) (kk : Key) : (valV dk kk).isSome = (getK kvs (keyMV kk)).isSome := by
  cases q : getK kvs (keyMV kk) with
  | none => rw [(dd.get kk).1 q]; rfl
  | some x => obtain ⟨v, hv, _⟩ := (dd.get kk).2 x q; rw [hv]; rfl
theorem pr_inA : PrimR R (fun x y H Q => ((∃ (c : Nat) (z : Str), x = .str ⟨#[c]⟩ ∧ y = .str z ∧ Q (.bl (decide (c ∈ z.cps.toList))) H) ∨ rIn R.K false x y H Q) ∨ ∃ a o, y = .ref a ∧ DGet H a x o ∧ Q (.bl o.isSome) H) (opInA false) := fun {F W σ G H G2 H2 s2 r1 r2 x y Q} w h1 h2 o => by
  unfold opInA at o
  split at o
  · rename_i kvs hd
    obtain ⟨a, dk, rfl, ha, dd⟩ := dict_ok w.rel h2 hd
    split at o
    · split at o
      · rename_i kk hk
        obtain ⟨rfl, e⟩ := keyOf_V (K := R.K) (G := G2) (H := H2) h1 hk
        subst e
        exact .inr ⟨a, valV dk kk, rfl, DGet.rd ha, by rw [dget_some dd]; simpa using finB w o⟩
      · exact o.elim
    · exact o.elim
  · exact .inl (pr_in w h1 h2 o)
theorem pr_notInA : PrimR R (fun x y H Q => ((∃ (c : Nat) (z : Str), x = .str ⟨#[c]⟩ ∧ y = .str z ∧ Q (.bl (!decide (c ∈ z.cps.toList))) H) ∨ rIn R.K true x y H Q) ∨ ∃ a o, y = .ref a ∧ DGet H a x o ∧ Q (.bl (!o.isSome)) H) (opInA true) := fun {F W σ G H G2 H2 s2 r1 r2 x y Q} w h1 h2 o => by
  unfold opInA at o
  split at o
  · rename_i kvs hd
    obtain ⟨a, dk, rfl, ha, dd⟩ := dict_ok w.rel h2 hd
    split at o
    · split at o
      · rename_i kk hk
        obtain ⟨rfl, e⟩ := keyOf_V (K := R.K) (G := G2) (H := H2) h1 hk
        subst e
        exact .inr ⟨a, valV dk kk, rfl, DGet.rd ha, by rw [dget_some dd]; simpa using finB w o⟩
      · exact o.elim
    · exact o.elim
  · exact .inl (pr_notIn w h1 h2 o)
variable {a b : Expr} {fa fb : ME}
theorem je_inA (hr : Room k X.A) (ha : JE X R W a fa) (hb : JE X R W b fb) (hm : behindInMarks .In b = false := by rfl) : JE X R W (.Compare a [.In] [b] pos) (mBin (opInA false) fa fb) := se_cmp (OpR.or (OpR.or op_in_sign op_in_seq) (op_in_dict (hu1 hr))) (fun h => h ▸ pr_inA) ha hb hm
theorem je_notInA (hr : Room k X.A) (ha : JE X R W a fa) (hb : JE X R W b fb) (hm : behindInMarks .NotIn b = false := by rfl) : JE X R W (.Compare a [.NotIn] [b] pos) (mBin (opInA true) fa fb) := se_cmp (OpR.or (OpR.or op_notIn_sign op_notIn_seq) (op_notIn_dict (hu1 hr))) (fun h => h ▸ pr_notInA) ha hb hm
theorem jt_inA (hr : Room k X.A) (ha : JE X R W a fa) (hb : JE X R W b fb) (hm : behindInMarks .In b = false := by rfl) : JT X R W (.Compare a [.In] [b] pos) (mTestB (mBin (opInA false) fa fb)) := jt_cmp (OpR.or (OpR.or op_in_sign op_in_seq) (op_in_dict (hu1 hr))) (fun h => h ▸ pr_inA) ha hb hm
theorem jt_notInA (hr : Room k X.A) (ha : JE X R W a fa) (hb : JE X R W b fb) (hm : behindInMarks .NotIn b = false := by rfl) : JT X R W (.Compare a [.NotIn] [b] pos) (mTestB (mBin (opInA true) fa fb)) := jt_cmp (OpR.or (OpR.or op_notIn_sign op_notIn_seq) (op_notIn_dict (hu1 hr))) (fun h => h ▸ pr_notInA) ha hb hm
/-- {} -/
def mDict0 : ME := fun s => .ok (.own (.dict [])) s
theorem je_dict0 : JE X R W (.Dict [] [] pos) mDict0 := fun hK F => PE.imp pe_dnewK fun σ H Q ⟨G, s, rel, o⟩ => fun p hp => by
  have g := rel.noRole hp
  exact o G _ _ (rel.alloc hp) (Evo.refl.updNew hp g) ⟨p, rfl, hp, g, _, upd_same, [], rfl, rfl, VRs.nil (K := R.K)⟩
end
end Mi
set_option Elab.async false
set_option linter.all false
set_option maxRecDepth 100000
set_option maxHeartbeats 4000000
namespace Mi
open PySem PySem.Spec PyProof.Rows L2
section
variable {X : Cx} {R : RC} {W : WX} {F : FI} {σ : L2.St} {G G1 : Gh} {H H1 : Hp} {s s1 : MS} {pos apos cpos : Pos} {k : Nat} {o e f : Expr} {fo fe ff : ME}
/-! d.get(k), d.get(k, x) -/
def mGet1 (fo fe : ME) : ME := fun s => (fo s).bind fun r s1 => match dictOf s1 r with
  | some _ => (mSh fe s1).bind fun q s2 => match dictOf s2 r with
    | some kvs => match keyOf q with
      | some _ => .ok (.v ((getK kvs q).getD .non)) s2
      | none => .bad
    | none => .bad
  | none => .bad
def mGet2 (fo fe ff : ME) : ME := fun s => (fo s).bind fun r s1 => match dictOf s1 r with
  | some _ => (mSh fe s1).bind fun q s2 => (mSh ff s2).bind fun d s3 => match dictOf s3 r with
    | some kvs => match keyOf q with
      | some _ => .ok (.v ((getK kvs q).getD d)) s3
      | none => .bad
    | none => .bad
  | none => .bad
theorem getD_ok {kvs : List (MV × MV)} {dk : List (Key × V)} {K : PySem.W.Frag} (dd : DD K G H kvs dk) (kk : Key) {d : MV} {u : V} (hd : VR K G H d u) : VR K G H ((getK kvs (keyMV kk)).getD d) ((valV dk kk).getD u) := by
  cases q : getK kvs (keyMV kk) with
  | none => rw [(dd.get kk).1 q]; exact hd
  | some x => obtain ⟨v, hv, r⟩ := (dd.get kk).2 x q; rw [hv]; exact r
theorem je_get1 (hr : Room k X.A) (ho : JE X R W o fo) (he : JE X R W e fe) (m : M1 X o "get" apos e cpos := by exact ⟨rfl, rfl, rfl, rfl⟩) : JE X R W (.Call (.Attribute o "get" apos) [e] [] cpos) (mGet1 fo fe) := fun hK F =>
  PE.imp (pe_dget1 (hu1 hr) (ho hK F) (jv_of he hK F) m) fun σ H Q h => by
    refine (first (M := rlE) h).mono fun x H1 ⟨G, r, s1, G1, w, rr, o⟩ => ?_
    have rr : RR R σ H G1 H1 r x := rr
    split at o
    · rename_i kvs hd
      obtain ⟨a, dk, rfl, ha, _⟩ := dict_ok w.rel rr hd
      refine ⟨a, rfl, .inl ⟨dk, ha⟩, ?_⟩
      refine (next (M := rlV) w o).mono fun y H2 ⟨q, s2, G2, w2, e12, rq, o2⟩ => ?_
      have rq : VR R.K G2 H2 q y := rq
      split at o2
      · rename_i kvs2 hd2
        obtain ⟨a2, dk2, ea, ha2, dd⟩ := dict_ok w2.rel (rr.mono e12) hd2
        cases ea
        split at o2
        · rename_i kk hk
          obtain ⟨rfl, e⟩ := keyOf_V rq hk
          subst e
          exact ⟨_, DGet.rd ha2, finV w2 o2 (getD_ok dd kk (VR.mkNon (K := R.K) (G := G2) (H := H2)))⟩
        · exact o2.elim
      · exact o2.elim
    · exact o.elim
theorem je_get2 (hr : Room k X.A) (ho : JE X R W o fo) (he : JE X R W e fe) (hf : JE X R W f ff) (m : M2 X o "get" apos e f cpos := by exact ⟨rfl, rfl, rfl, rfl⟩) : JE X R W (.Call (.Attribute o "get" apos) [e, f] [] cpos) (mGet2 fo fe ff) := fun hK F =>
  PE.imp (pe_dget2 (hu1 hr) (ho hK F) (jv_of he hK F) (jv_of hf hK F) m) fun σ H Q h => by
    refine (first (M := rlE) h).mono fun x H1 ⟨G, r, s1, G1, w, rr, o⟩ => ?_
    have rr : RR R σ H G1 H1 r x := rr
    split at o
    · rename_i kvs hd
      obtain ⟨a, dk, rfl, ha, _⟩ := dict_ok w.rel rr hd
      refine ⟨a, rfl, .inl ⟨dk, ha⟩, ?_⟩
      refine (next (M := rlV) w o).mono fun y H2 ⟨q, s2, G2, w2, e12, rq, o2⟩ => ?_
      refine (next (M := rlV) w2 o2).mono fun z H3 ⟨d, s3, G3, w3, e23, rd, o3⟩ => ?_
      have rq : VR R.K G3 H3 q y := VR.mono e23.mo _ _ (show VR R.K G2 H2 q y from rq)
      have rd : VR R.K G3 H3 d z := rd
      split at o3
      · rename_i kvs2 hd2
        obtain ⟨a2, dk2, ea, ha2, dd⟩ := dict_ok w3.rel ((rr.mono e12).mono e23) hd2
        cases ea
        split at o3
        · rename_i kk hk
          obtain ⟨rfl, e⟩ := keyOf_V rq hk
          subst e
          exact ⟨_, DGet.rd ha2, finV w3 o3 (getD_ok dd kk rd)⟩
        · exact o3.elim
      · exact o3.elim
    · exact o.elim
/-- a dict at a place written anew -/
theorem put_dct {r : RV} {v : V} {kvs : List (MV × MV)} (w : Way R F σ G H G1 H1 s1) (rr : RR R σ H G1 H1 r v) (e : place s1 r = some (.dict kvs)) :
    ∃ a dk, v = .ref a ∧ H1 a = some (.dK dk) ∧ DD R.K G1 H1 kvs dk ∧ (∃ q, G1 a = some q ∧ q ≠ .frz) ∧ ∀ kvs' dk', DD R.K G1 H1 kvs' dk' → Rel R F G1 (putC s1 r (.dict kvs')) σ (upd H1 a (.dK dk')) := by
  obtain ⟨a, rfl, ⟨ho, ha, dk, rfl, h1, h2⟩, g, _⟩ := put_ok (c' := .dict []) w.rel rr e
  refine ⟨a, dk, rfl, ha, ⟨h1, h2⟩, g, fun kvs' dk' dd => ?_⟩
  obtain ⟨a', ea, _, _, put⟩ := put_ok (c' := .dict kvs') w.rel rr e
  cases ea
  obtain ⟨q, gq, nf⟩ := g
  have mu : Mo G1 H1 G1 (upd H1 a (.dK dk')) := Mo.upd fun z => nf (by rw [z] at gq; exact (Option.some.inj gq).symm)
  exact put _ ⟨_, upd_same, dk', rfl, dd.1, VRs.mono mu _ _ dd.2⟩
/-! o[i] = x -/
def setIxA (r : RV) (i : RV) (x : MV) (s : MS) : Out Fl := match place s r with
  | some (.dict kvs) => match i with
    | .v q => match keyOf q with
      | some _ => if kvs.length < sizeLine then .ok .next (putC s r (.dict (setK kvs q x))) else .bad
      | none => .bad
    | _ => .bad
  | some (.lst xs) => match i with
    | .v (.int q) => match ixN xs.length q with
      | some j => .ok .next (putC s r (.lst (xs.set j x)))
      | none => .bad
    | _ => .bad
  | _ => .bad
def mSetIxA (fe fo fi : ME) : MSt := fun s => (mSh fe s).bind fun x s1 => (fo s1).bind fun r s2 => (fi s2).bind fun i s3 => setIxA r i x s3
theorem js_setixA {i : Expr} {fi : ME} {tpos : Pos} (hr : Room k X.A) (he : JE X R W e fe) (ho : JE X R W o fo) (hi : JE X R W i fi) (hs : swapsWithSole [.Subscript o i tpos] e pos.line X.env = pure false := by rfl) (hw : swappedStores [.Subscript o i tpos] e X.env = pure none := by rfl)
    (h1 : (assignEach [.Subscript o i tpos] X.env).map (·.2) = [assign (.Subscript o i tpos) X.env] := by rfl)
    (ha : ∀ v, assign (.Subscript o i tpos) X.env v = (do
      let ov ← holding [v] (eval o X.env)
      let iv ← holding [v, ov] (eval i X.env)
      standAt tpos
      holding [v, ov, iv] (setItem ov iv v)
      release [v, ov, iv] []) := by intro _; rfl) : JS X R W (.Assign [.Subscript o i tpos] e pos) (mSetIxA fe fo fi) := fun hK F =>
  PS.imp (ps_asg (jv_of he hK F) (pg_sub (ho hK F) (hi hK F) (set_any (hu1 hr)) ha) hs hw h1) fun D σ H h => by
    refine (firstS (M := rlV) h).mono fun v H1 ⟨G, x, s1, G1, w, vx, o⟩ => ?_
    refine (nextS (M := rlE) w o).mono fun ov H2 ⟨r, s2, G2, w2, e12, rr, o2⟩ => ?_
    refine (nextS (M := rlE) w2 o2).mono fun iv H3 ⟨ir, s3, G3, w3, e23, ri, o3⟩ => ?_
    have rr : RR R σ H G2 H2 r ov := rr
    have ri : RR R σ H G3 H3 ir iv := ri
    have rr3 := rr.mono e23
    have vx3 : VR R.K G3 H3 x v := VR.mono (e12.trans e23).mo _ _ (show VR R.K G1 H1 x v from vx)
    unfold setIxA at o3
    split at o3
    · rename_i kvs hp
      obtain ⟨a, dk, rfl, ha, dd, ⟨q, gq, nf⟩, put⟩ := put_dct w3 rr3 hp
      have gn : G3 a ≠ some .frz := fun z => nf (by rw [z] at gq; exact (Option.some.inj gq).symm)
      split at o3
      · split at o3
        · rename_i kk hk
          obtain ⟨rfl, e⟩ := keyOf_V (K := R.K) (G := G3) (H := H3) ri hk
          subst e
          split at o3
          · rename_i hz
            exact .inr ⟨a, _, rfl, DPut.k ha (by rw [← dd.length]; exact hz), o3 _ _ _ (put _ _ (dd.put kk vx3)) (w3.evS.trans (Evo.updRole gn (by rw [gq]; simp) (fun x u z => by rw [ha] at z; cases z)))⟩
          · exact o3.elim
        · exact o3.elim
      · exact o3.elim
    · rename_i xs hp
      split at o3
      · cases RR.int ri
        split at o3
        · rename_i j hj
          obtain ⟨a, rfl, ⟨vs, ha, hvs⟩, ⟨q, gq, nf⟩, put⟩ := put_ok w3.rel rr3 hp
          have gn : G3 a ≠ some .frz := fun z => nf (by rw [z] at gq; exact (Option.some.inj gq).symm)
          have mu : Mo G3 H3 G3 (upd H3 a (.lst (vs.set j v))) := Mo.upd gn
          exact .inl ⟨a, vs, _, j, rfl, rfl, ha, by rw [← hvs.length]; exact hj, o3 _ _ _ (put _ ⟨_, upd_same, VRs.set (VR.mono mu _ _ vx3) j (VRs.mono mu _ _ hvs)⟩) (w3.evS.trans (Evo.updRole gn (by rw [gq]; simp) (fun x u z => by rw [ha] at z; cases z)))⟩
        · exact o3.elim
      · exact o3.elim
    · exact o3.elim
/-! d.setdefault(k, x) -/
def mSetd (fo fe ff : ME) : ME := fun s => (fo s).bind fun r s1 => match dictOf s1 r with
  | some _ => (mSh fe s1).bind fun q s2 => (mSh ff s2).bind fun d s3 => match place s3 r with
    | some (.dict kvs) => match keyOf q with
      | some _ => if kvs.length < sizeLine then (match getK kvs q with
        | some x => .ok (.v x) s3
        | none => .ok (.v d) (putC s3 r (.dict (setK kvs q d)))) else .bad
      | none => .bad
    | _ => .bad
  | none => .bad
theorem je_setd (ho : JE X R W o fo) (he : JE X R W e fe) (hf : JE X R W f ff) (m : M2 X o "setdefault" apos e f cpos := by exact ⟨rfl, rfl, rfl, rfl⟩) : JE X R W (.Call (.Attribute o "setdefault" apos) [e, f] [] cpos) (mSetd fo fe ff) := fun hK F =>
  PE.imp (pe_dsetd (ho hK F) (jv_of he hK F) (jv_of hf hK F) m) fun σ H Q h => by
    refine (first (M := rlE) h).mono fun x H1 ⟨G, r, s1, G1, w, rr, o⟩ => ?_
    have rr : RR R σ H G1 H1 r x := rr
    split at o
    · rename_i kvs hd
      obtain ⟨a, dk, rfl, ha, _⟩ := dict_ok w.rel rr hd
      refine ⟨a, rfl, .inl ⟨dk, ha⟩, ?_⟩
      refine (next (M := rlV) w o).mono fun y H2 ⟨q, s2, G2, w2, e12, rq, o2⟩ => ?_
      refine (next (M := rlV) w2 o2).mono fun z H3 ⟨d, s3, G3, w3, e23, rd, o3⟩ => ?_
      have rq : VR R.K G3 H3 q y := VR.mono e23.mo _ _ (show VR R.K G2 H2 q y from rq)
      have rd : VR R.K G3 H3 d z := rd
      split at o3
      · rename_i kvs2 hp
        obtain ⟨a2, dk2, ea, ha2, dd, ⟨g0, gq, nf⟩, put⟩ := put_dct w3 ((rr.mono e12).mono e23) hp
        cases ea
        have gn : G3 a ≠ some .frz := fun z => nf (by rw [z] at gq; exact (Option.some.inj gq).symm)
        split at o3
        · rename_i kk hk
          obtain ⟨rfl, e⟩ := keyOf_V rq hk
          subst e
          split at o3
          · rename_i hz
            refine ⟨dk2, kk, ha2, rfl, by rw [← dd.length]; exact hz, fun v hv => ?_, fun hv => ?_⟩
            · split at o3
              · rename_i x0 hx
                obtain ⟨v', hv', vr⟩ := (dd.get kk).2 x0 hx
                rw [hv] at hv'; cases hv'
                exact finV w3 o3 vr
              · rename_i hx
                rw [(dd.get kk).1 hx] at hv; cases hv
            · split at o3
              · rename_i x0 hx
                obtain ⟨v', hv', vr⟩ := (dd.get kk).2 x0 hx
                rw [hv] at hv'; cases hv'
              · rename_i hx
                have mu : Mo G3 H3 G3 (upd H3 a (.dK (putK dk2 kk z))) := Mo.upd gn
                exact o3 _ _ _ (put _ _ (dd.put kk rd)) (w3.evo.trans (Evo.updRole gn (by rw [gq]; simp) (fun x u z => by rw [ha2] at z; cases z))) (VR.mono mu _ _ rd)
          · exact o3.elim
        · exact o3.elim
      · exact o3.elim
    · exact o.elim
/-! d of a dict display with text keys is left to pe_disp; an own text as a class constant, too -/
end
end Mi
set_option Elab.async false
set_option linter.all false
set_option maxRecDepth 100000
set_option maxHeartbeats 4000000
namespace Mi
open PySem PySem.Spec PyProof.Rows L2
section
variable {X : Cx} {R : RC} {W : WX} {pos p tpos : Pos} {e e2 : Expr} {elts : List Expr} {kk : Nat}
/-- enumerate(x, start) -/
theorem pi_enP {t : TA} (hg : Gl X "enumerate") (hm : X.mg "enumerate" = none) (ha : PA X [e, e2] t) (hs : starEach [e, e2] X.env = (false, eval e X.env) :: starEach [e2] X.env := by rfl) (hpl : (backTo pos (starEach [e2] X.env)).any (·.1) = false := by rfl) :
    PI X (.Tuple elts kk tpos) (.Call (.Name "enumerate" p) [e, e2] [] pos) (fun σ H Rr => t σ H fun xs H1 => ∃ v k0, xs = [v, .int k0] ∧ (-(2 ^ 63) ≤ k0 ∧ k0 < 2 ^ 63) ∧ iEn X.K k0 v H1 Rr) := by
  refine ⟨fun pins s σ H Rr I h => ?_⟩
  refine Call_ (ld_blt I hg hm boot_enumerate (PyProof.Rows.callWith_type1 (thn (ha.run pos pins s σ H _ I h) fun us s1 ⟨vs, H1, I1, r1, v, k0, ev, ⟨h0, h1⟩, q1⟩ => ?_) hs hpl))
  subst ev
  cases r1 with
  | cons r rr =>
    cases rr with
    | cons r2 rr =>
      cases rr
      obtain ⟨t, rfl⟩ := r2
      exact en_go I1 r q1 fun o Hb Q B hb k => enum_begins B hb h0 h1 k
def mEnumP (fs : MS → Out (List RV)) : MS → Out MI := fun s => (fs s).bind fun rs s1 => match rs with
  | [r, .v (.int k)] => if -(2 ^ 63) ≤ k ∧ k < 2 ^ 63 then (itOf r s1).bind fun I s2 => .ok ⟨enumItems k I.items, I.chk⟩ s2 else .bad
  | _ => .bad
theorem ji_enumP {fs : MS → Out (List RV)} (hm : X.mg "enumerate" = none) (ha : JA X R W [e, e2] fs) (hg : Gl X "enumerate" := by rfl) (hs : starEach [e, e2] X.env = (false, eval e X.env) :: starEach [e2] X.env := by rfl) (hpl : (backTo pos (starEach [e2] X.env)).any (·.1) = false := by rfl) :
    JI X R W (.Tuple elts kk tpos) (.Call (.Name "enumerate" p) [e, e2] [] pos) (mEnumP fs) := fun hK F => PI.imp (pi_enP hg hm (ha hK F) hs hpl) fun σ H Rr h =>
  (first (M := rlR) h).mono fun vs H1 ⟨G, rs, s1, G1, w, rr, o⟩ => by
    have rr : RRs R σ H G1 H1 rs vs := rr
    split at o
    · obtain ⟨v, t, rfl, r1, v2, t2, rfl, r2, e⟩ := rr
      have e : t2 = [] := e
      subst e
      cases RR.int r2
      split at o
      · rename_i hk
        exact ⟨v, _, rfl, hk, en_src hK w r1 o⟩
      · exact o.elim
    · exact o.elim
end
end Mi
set_option Elab.async false
set_option linter.all false
set_option maxRecDepth 100000
set_option maxHeartbeats 4000000
namespace Mi
open PySem PySem.Spec PyProof.Rows L2
/-! dict displays -/
def PRs (K : PySem.W.Frag) (G : Gh) (H : Hp) (r : List (MV × MV)) (v : List (V × V)) : Prop := VRs K G H (r.map (·.1)) (v.map (·.1)) ∧ VRs K G H (r.map (·.2)) (v.map (·.2))
def rlP : RL (List (MV × MV)) (List (V × V)) := ⟨fun R _ _ G H r v => PRs R.K G H r v, fun e h => ⟨VRs.mono e.mo _ _ h.1, VRs.mono e.mo _ _ h.2⟩, fun _ h => h⟩
def JP (X : Cx) (R : RC) (W : WX) (pos : Pos) (ks : List (Option Expr)) (vs : List Expr) (fp : MS → Out (List (MV × MV))) : Prop := R.K = X.K → ∀ F, ∃ trs, PPs X pos ks vs trs ∧ ∀ σ H Q, tX rlP R F W fp σ H Q → tPairs trs σ H Q
section
variable {X : Cx} {R : RC} {W : WX} {pos : Pos} {k v : Expr} {ks : List (Option Expr)} {vs : List Expr} {fk fv : ME} {fp : MS → Out (List (MV × MV))}
theorem jp_nil : JP X R W pos [] [] (fun s => .ok [] s) := fun _ F => ⟨[], pps_nil, fun σ H Q ⟨G, s, rel, o⟩ => o G H _ rel .refl ⟨VRs.nil (K := R.K) (G := G) (H := H), VRs.nil (K := R.K) (G := G) (H := H)⟩⟩
def mPairs (fk fv : ME) (fp : MS → Out (List (MV × MV))) : MS → Out (List (MV × MV)) := fun s => (mSh fk s).bind fun x s1 => (mSh fv s1).bind fun y s2 => (fp s2).bind fun ps s3 => .ok ((x, y) :: ps) s3
theorem jp_cons (hk : JE X R W k fk) (hv : JE X R W v fv) (hr : JP X R W pos ks vs fp) : JP X R W pos (some k :: ks) (v :: vs) (mPairs fk fv fp) := fun hK F => by
  obtain ⟨trs, hp, hq⟩ := hr hK F
  refine ⟨_, pps_cons (jv_of hk hK F) (jv_of hv hK F) hp, fun σ H Q h => ?_⟩
  refine (first (M := rlV) h).mono fun x H1 ⟨G, r, s1, G1, w, rx, o⟩ => ?_
  refine (next (M := rlV) w o).mono fun y H2 ⟨r2, s2, G2, w2, e12, ry, o2⟩ => ?_
  have rx : VR R.K G2 H2 r x := VR.mono e12.mo _ _ (show VR R.K G1 H1 r x from rx)
  have ry : VR R.K G2 H2 r2 y := ry
  refine hq _ _ _ ((next (M := rlP) w2 o2).mono fun ps H3 ⟨r3, s3, G3, w3, e23, rp, o3⟩ => ?_)
  have rp : VRs R.K G3 H3 (r3.map (·.1)) (ps.map (·.1)) ∧ VRs R.K G3 H3 (r3.map (·.2)) (ps.map (·.2)) := rp
  exact o3 _ _ _ w3.rel w3.evo ⟨VRs.cons (VR.mono e23.mo _ _ rx) rp.1, VRs.cons (VR.mono e23.mo _ _ ry) rp.2⟩
def keysOk (ps : List (MV × MV)) : Bool := ps.all fun p => (keyOf p.1).isSome
theorem DD.of {K : PySem.W.Frag} {G : Gh} {H : Hp} : ∀ {ps : List (MV × MV)} {qs : List (V × V)}, VRs K G H (ps.map (·.1)) (qs.map (·.1)) → VRs K G H (ps.map (·.2)) (qs.map (·.2)) → keysOk ps = true → ∃ kvs : List (Key × V), qs = kvs.map (fun kv => (kV kv.1, kv.2)) ∧ DD K G H ps kvs
  | [], qs, h1, h2, _ => by
    cases qs with
    | nil => exact ⟨[], rfl, rfl, VRs.nil (K := K) (G := G) (H := H)⟩
    | cons q r => unfold VRs at h1; simp at h1
  | p :: ps, qs, h1, h2, hk => by
    cases qs with
    | nil =>
      obtain ⟨v, r, e, _⟩ := VRs.inv (K := K) (G := G) (H := H) (by simpa using h1)
      simp at e
    | cons q r =>
      obtain ⟨v, t, e, p1, p2⟩ := VRs.inv (K := K) (G := G) (H := H) (by simpa using h1)
      obtain ⟨v', t', e', p1', p2'⟩ := VRs.inv (K := K) (G := G) (H := H) (by simpa using h2)
      simp only [List.map_cons, List.cons.injEq] at e e'
      obtain ⟨rfl, rfl⟩ := e
      obtain ⟨rfl, rfl⟩ := e'
      simp only [keysOk, List.all_cons, Bool.and_eq_true] at hk
      obtain ⟨kk, hkk⟩ := Option.isSome_iff_exists.mp hk.1
      obtain ⟨ek, em⟩ := keyOf_V p1 hkk
      obtain ⟨kvs, er, dd⟩ := DD.of p2 p2' hk.2
      exact ⟨(kk, q.2) :: kvs, by rw [List.map_cons, ← er, ← ek], DD.cons em.symm p1' dd⟩
def mergeM (acc ps : List (MV × MV)) : List (MV × MV) := ps.foldl (fun acc p => setK acc p.1 p.2) acc
theorem DD.merge {K : PySem.W.Frag} {G : Gh} {H : Hp} : ∀ {ps acc : List (MV × MV)} {kvs dk : List (Key × V)}, DD K G H ps kvs → DD K G H acc dk → DD K G H (mergeM acc ps) (mergeK dk kvs)
  | [], acc, kvs, dk, h, ha => by rw [h.nil]; exact ha
  | p :: ps, acc, kvs, dk, h, ha => by
    obtain ⟨j, v, r, rfl, e, hv, hr⟩ := h.inv
    show DD K G H (mergeM (setK acc p.1 p.2) ps) (mergeK (putK dk j v) r)
    rw [e]
    exact DD.merge hr (ha.put j hv)
def mDisp (fp : MS → Out (List (MV × MV))) : ME := fun s => (fp s).bind fun ps s1 => if keysOk ps = true ∧ ps.length ≤ 15 then .ok (.own (.dict (mergeM [] ps))) s1 else .bad
theorem je_disp (h : JP X R W pos ks vs fp) (hall : ks.all (·.isSome) = true := by rfl) (hl : ks.length = vs.length := by rfl) (h0 : ks ≠ [] := by simp) (h15 : ks.length ≤ 15 := by decide) : JE X R W (.Dict ks vs pos) (mDisp fp) := fun hK F => by
  obtain ⟨trs, hp, hq⟩ := h hK F
  refine PE.imp (pe_disp hp hall hl h0 h15) fun σ H Q ⟨G, s, rel, o⟩ => fun p hpn => ?_
  have g := rel.noRole hpn
  have h00 := fresh_back rel.since hpn
  have rel1 := rel.alloc (o := .dK []) hpn
  refine hq _ _ _ ⟨G, s, rel1, ?_⟩
  have o : OutX rlE R F W σ G H ((fp s).bind fun ps s1 => if keysOk ps = true ∧ ps.length ≤ 15 then .ok (.own (.dict (mergeM [] ps))) s1 else .bad) Q := o
  cases q : fp s with
  | exc c xs s2 => rw [q] at o; exact fun G' H' cls d rel' ev x => o G' H' cls d rel' ((Evo.refl.updNew hpn g).trans ev) x
  | bad => rw [q] at o; exact o.elim
  | ok ps s2 =>
    rw [q] at o
    intro G2 H2 qs rel2 ev2 rp
    have rp : VRs R.K G2 H2 (ps.map (·.1)) (qs.map (·.1)) ∧ VRs R.K G2 H2 (ps.map (·.2)) (qs.map (·.2)) := rp
    simp only [Out.bind_ok] at o
    split at o
    · rename_i hk
      obtain ⟨hp2, gp2⟩ := ev2.un p _ upd_same g
      obtain ⟨kvs, eq, dd⟩ := DD.of rp.1 rp.2 hk.1
      refine ⟨hp2, kvs, eq, by rw [← dd.length]; exact hk.2, ?_⟩
      have evH : Evo EvT G H G2 H2 := (Evo.refl.updNew hpn g).trans ev2
      have mu : Mo G2 H2 G2 (upd H2 p (.dK (mergeK [] kvs))) := Mo.upd (by rw [gp2]; simp)
      have dm := dd.merge (acc := []) (dk := []) ⟨rfl, VRs.nil (K := R.K) (G := G2) (H := H2)⟩
      exact o G2 _ _ (rel2.updNone gp2 h00) (evH.updNew hpn gp2) ⟨p, rfl, hpn, gp2, _, upd_same, _, rfl, dm.1, VRs.mono mu _ _ dm.2⟩
    · exact o.elim
end
end Mi
set_option Elab.async false
set_option linter.all false
set_option maxRecDepth 100000
set_option maxHeartbeats 4000000
namespace Mi
open PySem PySem.Spec PyProof.Rows L2
/-! repr of lists and tuples -/
/-- the data whose text is told -/
def shOk (d : PyData) : Prop := d.showable = true ∧ d.hasDict = false ∧ d.depth ≤ 64 ∧ d.shown.length ≤ sizeLine
def rReprD (K : PySem.W.Frag) : List V → Hp → VK → Prop := fun xs H Q => (∃ b, xs = [.bl b] ∧ Q (.str (if b then "True" else "False")) H) ∨ ∃ a d, xs = [.ref a] ∧ Dp K H (.ref a) d ∧ shOk d ∧ Q (.str d.shown) H
section
variable {X : Cx} {R : RC} {W : WX} {pos pp : Pos} {k : Nat} {e : Expr} {es : List Expr} {fs : MS → Out (List RV)}
theorem call_repr_d (hr : Room k X.A) : CallR X (.builtin "repr") (rReprD X.K) := by
  intro pins s σ H xs us Q I r h
  rcases h with h | ⟨a, d, rfl, hd, ⟨h1, h2, h3, h4⟩, q⟩
  · exact call_repr_bl pins s σ H xs us Q I r h
  · cases r with
    | cons r1 r2 =>
      cases r2
      rename_i u
      obtain rfl : u = Value.ref a := r1
      obtain ⟨as, rd⟩ := Dp.reads I d _ _ hd rfl
      refine repr_of_reads' rd h1 (noDict_of h2) hr.gd (by have := hr.un; omega) (fun b o z => z) (fun h' u tk kp => ⟨.str d.shown, H, I.kept (h' := h') (t' := tk) fun b o z => kp b o z, ⟨u, rfl⟩, q⟩) h4
where noDict_of {d : PyData} {as : List Addr} (h : d.hasDict = false) : d.hasDict = true → sysModules ∉ as := fun z => by rw [h] at z; cases z
open Classical in
noncomputable def pReprD (rs : List RV) (s : MS) : Out RV := match rs with
  | [.v (.bl b)] => .ok (.v (.str (if b then [84, 114, 117, 101] else [70, 97, 108, 115, 101]))) s
  | [r] => match rpd s r with
    | some (.list ds) => if shOk (.list ds) then .ok (.v (.str (PyData.list ds).shown.cps.toList)) s else .bad
    | some (.tuple ds) => if shOk (.tuple ds) then .ok (.v (.str (PyData.tuple ds).shown.cps.toList)) s else .bad
    | _ => .bad
  | _ => .bad
theorem Dp.ref_of {K : PySem.W.Frag} {H : Hp} {v : V} {d : PyData} (h : Dp K H v d) (hd : (∃ ds, d = .list ds) ∨ ∃ ds, d = .tuple ds) : ∃ a, v = .ref a := by
  rcases hd with ⟨ds, rfl⟩ | ⟨ds, rfl⟩ <;> cases h <;> exact ⟨_, rfl⟩
theorem pr_reprD : PrimC R (rReprD R.K) pReprD := fun {F W σ G H G2 H2 s2 rs vs Q} w rr o => by
  unfold pReprD at o
  split at o
  · exact .inl (pr_reprB w rr (by unfold pReprB; exact o))
  · rename_i r _
    obtain ⟨v, t, rfl, r1, rfl⟩ := rr
    have key : ∀ d, rpd s2 r = some d → ((∃ ds, d = .list ds) ∨ ∃ ds, d = .tuple ds) → shOk d → OutX rlE R F W σ G H (.ok (.v (.str d.shown.cps.toList)) s2) Q → rReprD R.K [v] H2 Q := fun d e hd hs o => by
      have dp := rpd_ok w.rel r1 e
      obtain ⟨a, rfl⟩ := Dp.ref_of dp hd
      exact .inr ⟨a, d, rfl, dp, hs, finS w o (by simp)⟩
    split at o
    · rename_i ds e
      split at o
      · rename_i hs; exact key _ e (.inl ⟨_, rfl⟩) hs o
      · exact o.elim
    · rename_i ds e
      split at o
      · rename_i hs; exact key _ e (.inr ⟨_, rfl⟩) hs o
      · exact o.elim
    · exact o.elim
  · exact o.elim
theorem je_reprD (hr : Room k X.A) (ha : JA X R W (e :: es) fs) (he : starEach (e :: es) X.env = (false, eval e X.env) :: starEach es X.env := by rfl) (hpl : (backTo pos (starEach es X.env)).any (·.1) = false := by rfl) (hm : X.mg "repr" = none) (hg : Gl X "repr" := by rfl) :
    JE X R W (.Call (.Name "repr" pp) (e :: es) [] pos) (mCallB pReprD fs) := fun hK => by
  have := je_callB (R := R) (W := W) (call_repr_d hr) (fun hK => by rw [← hK]; exact pr_reprD) hm boot_repr ha hg (pp := pp) (he := he) (hpl := hpl)
  exact this hK
end
/-! how long the told text is -/
mutual
def shCost : PyData → Nat
  | .none => 5
  | .bool _ => 5
  | .int _ => 2000
  | .str x => 10 * x.length + 2
  | .list xs => shCostAll xs + 4
  | .tuple xs => shCostAll xs + 4
  | .dict _ => 0
def shCostAll : List PyData → Nat
  | [] => 0
  | x :: xs => shCost x + 2 + shCostAll xs
end
end Mi
set_option Elab.async false
set_option linter.all false
set_option maxRecDepth 100000
set_option maxHeartbeats 4000000
namespace Mi
open PySem PySem.Spec PyProof.Rows L2 Builtin.Str
/-! the told text: its length, its signs -/
theorem list_text_len (ts : List Str) : (listText ts).length ≤ piled ts + 2 := by
  unfold listText
  rw [strLen_append]
  have e : ("]" : Str).length = 1 := by decide +kernel
  have e0 : ("[" : Str).length = 1 := by decide +kernel
  rw [show (("]" : String) : Str).length = 1 from e]
  cases ts with
  | nil => show (textFrom 0 "[" []).length + 1 ≤ _; unfold textFrom; rw [show (("[" : String) : Str).length = 1 from e0]; omega
  | cons t r =>
    show (textFrom 1 ("[" ++ (if 0 > 0 then ", " else "" : String) ++ t) r).length + 1 ≤ _
    rw [textFrom_length_pos _ _ _ Nat.one_pos, strLen_append, strLen_append, piled_cons, show (("[" : String) : Str).length = 1 from e0]
    have : (((if 0 > 0 then ", " else "" : String)) : Str).length = 0 := by decide +kernel
    omega
mutual
theorem shown_len : ∀ d : PyData, d.canLay0 = true → d.showable = true → d.shown.length ≤ shCost d
  | .none, _, _ => by unfold PyData.shown shCost; decide +kernel
  | .bool b, _, _ => by unfold PyData.shown shCost; cases b <;> decide +kernel
  | .int i, _, h => by
    unfold PyData.shown shCost
    have h : i.natAbs.log2 < 1920 := by simpa [PyData.showable] using h
    have := int_text_len_1921 h
    exact Nat.le_trans this (by decide)
  | .str x, h, _ => by
    unfold PyData.shown shCost
    refine StrLaws.reprText_len x fun c hc => ?_
    have h : x.cps.all (· < 0x110000) = true := by simpa [PyData.canLay0, PyData.strOk] using h
    rw [Array.all_eq_true'] at h
    have := h c (by simpa using hc)
    simp at this
    omega
  | .list xs, h, h2 => by
    unfold PyData.shown shCost
    have := shownAll_len xs (by simpa [PyData.canLay0] using h) (by simpa [PyData.showable] using h2)
    have := list_text_len (PyData.shownAll xs)
    omega
  | .tuple xs, h, h2 => by
    unfold PyData.shown shCost
    have := shownAll_len xs (by simpa [PyData.canLay0] using h) (by simpa [PyData.showable] using h2)
    have := fmt_text (PyData.shownAll xs)
    omega
  | .dict _, h, _ => by simp [PyData.canLay0] at h
theorem shownAll_len : ∀ ds : List PyData, PyData.canLayAll0 ds = true → PyData.showableAll ds = true → piled (PyData.shownAll ds) ≤ shCostAll ds
  | [], _, _ => Nat.le_refl _
  | d :: ds, h, h2 => by
    simp only [PyData.canLayAll0, Bool.and_eq_true] at h
    simp only [PyData.showableAll, Bool.and_eq_true] at h2
    have h1 := shown_len d h.1 h2.1
    have h3 := shownAll_len ds h.2 h2.2
    unfold PyData.shownAll shCostAll
    rw [piled_cons]
    omega
end
def SOk (x : Str) : Prop := ∀ c ∈ x.cps.toList, c < 0x110000
theorem SOk.app {a b : Str} (h : SOk a) (k : SOk b) : SOk (a ++ b) := fun c hc => by
  have hc : c ∈ (a ++ b).cps.toList := hc
  rw [show (a ++ b).cps = a.cps ++ b.cps from rfl, Array.toList_append, List.mem_append] at hc
  exact hc.elim (h c) (k c)
theorem char_lt (c : Char) : c.toNat < 0x110000 := by
  have := c.valid
  have e : c.toNat = c.val.toNat := rfl
  rw [e]
  rcases this with h | ⟨_, h⟩
  · exact Nat.lt_of_lt_of_le h (by decide)
  · exact h
theorem SOk.ofString (s : String) : SOk (Str.ofString s) := fun c hc => by
  rw [Str.ofString_eq_toList] at hc
  simp only [List.mem_map] at hc
  obtain ⟨d, _, rfl⟩ := hc
  exact char_lt d
theorem reprChar_lt {q c : Nat} (hq : q < 0x110000) (hc : c < 0x110000) : ∀ d ∈ reprChar q c, d < 0x110000 := by
  have hx : ∀ w, ∀ d ∈ List.replicate (w - ((Nat.toDigits 16 c).map Char.toNat).length) 48 ++ (Nat.toDigits 16 c).map Char.toNat, d < 0x110000 := fun w d hd => by
    rcases List.mem_append.mp hd with z | z
    · rw [List.eq_of_mem_replicate z]; decide
    · obtain ⟨e, _, rfl⟩ := List.mem_map.mp z
      exact char_lt e
  intro d hd
  unfold reprChar at hd
  simp only at hd
  have two : ∀ a : Nat, a < 0x110000 → d ∈ [92, a] → d < 0x110000 := fun a ha z => by
    simp at z; omega
  have ap : ∀ (a w : Nat), a < 0x110000 → d ∈ [92, a] ++ (List.replicate (w - ((Nat.toDigits 16 c).map Char.toNat).length) 48 ++ (Nat.toDigits 16 c).map Char.toNat) → d < 0x110000 := fun a w ha z => by
    rcases List.mem_append.mp z with z | z
    · exact two a ha z
    · exact hx w d z
  split at hd
  · exact two _ hc hd
  · split at hd
    · exact two _ (by decide) hd
    · split at hd
      · exact two _ (by decide) hd
      · split at hd
        · exact two _ (by decide) hd
        · split at hd
          · simp at hd; omega
          · split at hd
            · exact ap _ _ (by decide) hd
            · split at hd
              · exact ap _ _ (by decide) hd
              · exact ap _ _ (by decide) hd
theorem reprFold_lt {q : Nat} (hq : q < 0x110000) : ∀ (l : List Nat) (acc : Array Nat), (∀ c ∈ l, c < 0x110000) → (∀ c ∈ acc.toList, c < 0x110000) → ∀ c ∈ (l.foldl (fun out c => out ++ (reprChar q c).toArray) acc).toList, c < 0x110000
  | [], acc, _, h => h
  | x :: l, acc, h1, h2 => by
    refine reprFold_lt hq l _ (fun c hc => h1 c (List.mem_cons_of_mem _ hc)) fun c hc => ?_
    rw [Array.toList_append, List.mem_append] at hc
    rcases hc with z | z
    · exact h2 c z
    · exact reprChar_lt hq (h1 x (List.mem_cons_self ..)) c (by simpa using z)
theorem SOk.repr {x : Str} (h : SOk x) : SOk (reprText x) := fun c hc => by
  unfold reprText at hc
  have hq : reprQuote x < 0x110000 := by unfold reprQuote; split <;> decide
  simp only [Array.toList_push, List.mem_append, List.mem_singleton] at hc
  rcases hc with z | z
  · rw [← Array.foldl_toList] at z
    exact reprFold_lt hq _ _ h (fun c hc => by simp at hc; rw [hc]; exact hq) c z
  · rw [z]; exact hq
theorem SOk.textFrom : ∀ (ts : List Str) (k : Nat) (acc : Str), SOk acc → (∀ t ∈ ts, SOk t) → SOk (textFrom k acc ts)
  | [], _, _, h, _ => h
  | t :: r, k, acc, h, ht => SOk.textFrom r (k + 1) _ ((h.app (.ofString _)).app (ht t (List.mem_cons_self ..))) fun u hu => ht u (List.mem_cons_of_mem _ hu)
theorem SOk.join {sep : Str} (hs : SOk sep) : ∀ (ts : List Str), (∀ t ∈ ts, SOk t) → SOk (Str.join sep ts)
  | [], _ => fun c hc => by simp [Str.join, Str.empty] at hc
  | [x], h => h x (List.mem_cons_self ..)
  | x :: y :: r, h => ((h x (List.mem_cons_self ..)).app hs).app (SOk.join hs (y :: r) fun t ht => h t (List.mem_cons_of_mem _ ht))
mutual
theorem shown_ok : ∀ d : PyData, d.canLay0 = true → SOk d.shown
  | .none, _ => by unfold PyData.shown; exact .ofString _
  | .bool b, _ => by unfold PyData.shown; cases b <;> exact .ofString _
  | .int i, _ => by unfold PyData.shown; exact .ofString _
  | .str x, h => by
    unfold PyData.shown
    refine SOk.repr fun c hc => ?_
    have h : x.cps.all (· < 0x110000) = true := by simpa [PyData.canLay0, PyData.strOk] using h
    rw [Array.all_eq_true'] at h
    simpa using h c (by simpa using hc)
  | .list xs, h => by
    unfold PyData.shown listText
    exact SOk.app (SOk.textFrom _ _ _ (.ofString _) (shownAll_ok xs (by simpa [PyData.canLay0] using h))) (.ofString _)
  | .tuple xs, h => by
    unfold PyData.shown tupleText
    exact SOk.app (SOk.app (.ofString _) (SOk.join (.ofString _) _ (shownAll_ok xs (by simpa [PyData.canLay0] using h)))) (.ofString _)
  | .dict _, h => by simp [PyData.canLay0] at h
theorem shownAll_ok : ∀ ds : List PyData, PyData.canLayAll0 ds = true → ∀ t ∈ PyData.shownAll ds, SOk t
  | [], _ => fun t ht => by simp [PyData.shownAll] at ht
  | d :: ds, h => by
    simp only [PyData.canLayAll0, Bool.and_eq_true] at h
    intro t ht
    unfold PyData.shownAll at ht
    rcases List.mem_cons.mp ht with z | z
    · rw [z]; exact shown_ok d h.1
    · exact shownAll_ok ds h.2 t z
end
/-- repr of one and the same tells the same text -/
theorem e_reprL {s : MS} {r : RV} {ds : List PyData} (hr : rpd s r = some (.list ds)) (h0 : (PyData.list ds).canLay0 = true) (h1 : (PyData.list ds).showable = true) (h3 : (PyData.list ds).depth ≤ 64) (h4 : shCost (.list ds) ≤ sizeLine) :
    pReprD [r] s = .ok (.v (.str (PyData.list ds).shown.cps.toList)) s ∧ (PyData.list ds).shown.cps.toList.all (· < 0x110000) = true := by
  have ok : shOk (.list ds) := ⟨h1, PyData.hasDict_of_canLay _ h0, h3, Nat.le_trans (shown_len _ h0 h1) h4⟩
  refine ⟨?_, ?_⟩
  · unfold pReprD
    have nb : ∀ b, r ≠ .v (.bl b) := fun b e => by subst e; simp [rpd, pd] at hr
    split
    · rename_i b e; injection e with e; exact absurd e (nb _)
    · rename_i r' _ e
      injection e with e
      subst e
      rw [hr]
      simp only [ok, if_true]
    · rename_i e; exact absurd rfl (e r)
  · have := shown_ok _ h0
    simp only [List.all_eq_true, decide_eq_true_eq]
    exact this
end Mi
set_option Elab.async false
set_option linter.all false
set_option maxRecDepth 100000
set_option maxHeartbeats 4000000
namespace Mi
open PySem PySem.Spec PyProof.Rows L2
/-! sorted -/
def insI (a : Int) : List Int → List Int
  | [] => [a]
  | b :: r => if a ≤ b then a :: b :: r else b :: insI a r
def srtI : List Int → List Int
  | [] => []
  | a :: r => insI a (srtI r)
theorem insI_perm (a : Int) : ∀ l : List Int, (insI a l).Perm (a :: l)
  | [] => .refl _
  | b :: r => by
    unfold insI
    split
    · exact .refl _
    · exact ((insI_perm a r).cons b).trans (.swap a b r)
theorem srtI_perm : ∀ l : List Int, (srtI l).Perm l
  | [] => .refl _
  | a :: r => (insI_perm a (srtI r)).trans ((srtI_perm r).cons a)
theorem insI_sorted (a : Int) : ∀ l : List Int, l.Pairwise (· ≤ ·) → (insI a l).Pairwise (· ≤ ·)
  | [], _ => by unfold insI; simp
  | b :: r, h => by
    unfold insI
    have hb := List.pairwise_cons.mp h
    split
    · rename_i hab
      refine List.pairwise_cons.mpr ⟨fun x hx => ?_, h⟩
      rcases List.mem_cons.mp hx with e | e
      · omega
      · have := hb.1 x e; omega
    · rename_i hab
      refine List.pairwise_cons.mpr ⟨fun x hx => ?_, insI_sorted a r hb.2⟩
      rcases List.mem_cons.mp ((insI_perm a r).mem_iff.mp hx) with e | e
      · omega
      · exact hb.1 x e
theorem srtI_sorted : ∀ l : List Int, (srtI l).Pairwise (· ≤ ·)
  | [] => List.Pairwise.nil
  | a :: r => insI_sorted a _ (srtI_sorted r)
theorem sorted_unique : ∀ {l m : List Int}, l.Perm m → l.Pairwise (· ≤ ·) → m.Pairwise (· ≤ ·) → l = m
  | [], m, p, _, _ => p.nil_eq
  | a :: r, [], p, _, _ => by have := p.length_eq; simp at this
  | a :: r, b :: t, p, h1, h2 => by
    have e1 := List.pairwise_cons.mp h1
    have e2 := List.pairwise_cons.mp h2
    have ab : a = b := by
      have ha : a ∈ b :: t := p.mem_iff.mp (List.mem_cons_self ..)
      have hb : b ∈ a :: r := p.mem_iff.mpr (List.mem_cons_self ..)
      have x1 : b ≤ a := by
        rcases List.mem_cons.mp ha with z | z
        · omega
        · exact e2.1 a z
      have x2 : a ≤ b := by
        rcases List.mem_cons.mp hb with z | z
        · omega
        · exact e1.1 b z
      omega
    subst ab
    rw [sorted_unique (List.Perm.cons_inv p) e1.2 e2.2]
theorem srt_eq {l m : List Int} (p : l.Perm m) (h : l.Pairwise (· ≤ ·)) : l = srtI m := sorted_unique (p.trans (srtI_perm m).symm) h (srtI_sorted m)
/-! sorted(d), int keys, any number of them -/
theorem call_sortedDA {X : Cx} (hcalm : X.calm = true) : CallR X (.builtin "sorted") (fun xs H Q => ∃ (a : Addr) (kvs : List (Key × V)) (ks : List Int), xs = [.ref a] ∧ Rd H a (.dK kvs) ∧ kvs.map (·.1) = ks.map Sum.inl ∧
    ∀ (ys : List Int) (p : Addr), ys.Perm ks → ys.Pairwise (· ≤ ·) → H p = none → Q (.ref p) (upd H p (.lst (ys.map V.int)))) := by
  intro pins s σ H xs us Q I r q
  obtain ⟨a, kvs, ks, ex, hd, hks, q⟩ := q
  subst ex
  obtain ⟨u, eu, rx⟩ := vals1 r
  subst eu
  cases rx
  obtain ⟨z, lo, vs, rel, dd⟩ := dk_rd I.hok hd
  obtain ⟨ep, hat⟩ := dd.dictAt
  have hkeys : vs.map (·.1) = ks.map Sum.inl := rel.keys.symm.trans hks
  have hl : vs.length = ks.length := by
    have e := congrArg List.length hkeys
    rw [List.length_map, List.length_map] at e
    exact e
  have h16 : vs.length ≤ sizeLine := by rw [← rel.length]; exact z
  refine Calls.call_function_entry PyProof.Rows.kind_sorted PyProof.Rows.plain_sorted PyProof.Rows.entry_sorted (PyProof.Rows.args_sorted1 _) ?_
  unfold Builtin.«sorted»
  refine wpAny_bind (m := checkCount "sorted" 1 1 _) (wpAny_pure ?_)
  refine wpAny_bind (PySem.W.kdu_collect (A := X.A.in1) (PySem.W.kdl_dict (knd := mixKind X.prog X.w) (kvs := vs) (ep := ep) lo) (I.ok.hd hcalm) hat h16 fun h' tk acc hk hacc => ?_)
  have hal : acc.toList.length = ks.length := by rw [Array.length_toList, hacc.1, hl]
  have hS : IntsAre acc.toList ks := ints_each hal fun j v e => by
    obtain ⟨k, x, e1, e2⟩ := hacc.2 j v (by rw [← Array.getElem?_toList]; exact e)
    have e3 : (vs.map (·.1))[j]? = some k := by rw [List.getElem?_map, e1]; rfl
    rw [hkeys, List.getElem?_map] at e3
    cases e4 : ks[j]? with
    | none => rw [e4] at e3; cases e3
    | some y =>
      rw [e4] at e3
      have e5 : Sum.inl y = k := Option.some.inj e3
      subst e5
      rcases keyIs_shape (show keyIs (Sum.inl y) v = true from e2) with ⟨i, t, ek, ev⟩ | ⟨z, t, ek, ev⟩
      · cases ek
        exact ⟨y, t, rfl, ev⟩
      · cases ek
  have I1 : Inv X pins σ H { s with heap := h', toks := tk } := I.kept hk
  have hzl : acc.toList.length ≤ sizeLine := by rw [hal, ← hl]; exact h16
  refine wpAny_bind (wpAny_newList ?_ hzl)
  have hoL : (h'.push (seqObj "list" acc.toList.toArray 0)).get? h'.objs.size = some (seqObj "list" acc.toList.toArray 0) := Heap.get?_push_size _ rfl
  show wpAny _ _ _ _ _ { s with heap := h'.push (seqObj "list" acc.toList.toArray 0), toks := tk }
  refine wpAny_bind (wpAny_holding (wpAny_call_entry PyProof.Rows.slot_list_sort ⟨_, hoL, rfl⟩ PyProof.Rows.entry_list_sort
    (SrtO.list_sort_ord (s := { s with heap := h'.push (seqObj "list" acc.toList.toArray 0), toks := tk }) SrtO.swo_int hoL hzl (fun h2 => SrtO.ints_sortable hS h2) fun out g1 g2 => ⟨_, rfl, ?_⟩) (PyProof.Rows.args_list_sort _)))
  obtain ⟨k1, k2, k3⟩ := SrtO.ints_out hS g1 g2
  obtain ⟨e', he'⟩ := PyProof.Rows.sortedHeap_at (vs := acc.toList) (out := out.toArray) hoL
  have hlen : ((out.map SrtO.iv).map V.int).length ≤ sizeLine := by
    rw [List.length_map, k2.length_eq, ← hl]
    exact h16
  refine wpAny_pure ⟨_, rfl, .ref h'.objs.size, upd H h'.objs.size (.lst ((out.map SrtO.iv).map V.int)), I1.laid (t' := tk) (fun b u e => ?_) (Nat.le_refl _)
    (show ObjOk X.prog X.w _ _ _ (.lst ((out.map SrtO.iv).map V.int)) from ⟨hlen, out, e', vals_of_ints k1, he'⟩), rfl, q _ _ k2 k3 (I1.hok.fresh (Nat.le_refl _))⟩
  have hb : b < h'.objs.size := Heap.lt_size e
  rw [PyProof.Rows.sortedHeap_old (Nat.ne_of_lt hb) (by rw [size_push']; exact Nat.lt_succ_of_lt hb)]
  exact Heap.get?_push_of_some _ e
def rSortA (K : PySem.W.Frag) : List V → Hp → VK → Prop := fun xs H Q =>
  (∃ (a : Addr) (ns : List Int), xs = [.ref a] ∧ SqL K H a (ns.map V.int) ∧ ∀ p, H p = none → Q (.ref p) (upd H p (.lst ((srtI ns).map V.int)))) ∨
  ∃ (a : Addr) (kvs : List (Key × V)) (ks : List Int), xs = [.ref a] ∧ Rd H a (.dK kvs) ∧ kvs.map (·.1) = ks.map Sum.inl ∧ ∀ p, H p = none → Q (.ref p) (upd H p (.lst ((srtI ks).map V.int)))
section
variable {X : Cx} {R : RC} {W : WX} {pos pp : Pos} {k : Nat} {e : Expr} {es : List Expr} {fs : MS → Out (List RV)}
theorem call_sort_a (hc : X.calm = true) : CallR X (.builtin "sorted") (rSortA X.K) := by
  intro pins s σ H xs us Q I r h
  rcases h with ⟨a, ns, rfl, hs, q⟩ | ⟨a, kvs, ks, rfl, hd, hk, q⟩
  · exact cr_sortedI pins s σ H _ us Q I r ⟨a, ns, rfl, hs, fun ys p h1 h2 hp => by rw [srt_eq h1 h2]; exact q p hp⟩
  · exact call_sortedDA hc pins s σ H _ us Q I r ⟨a, kvs, ks, rfl, hd, hk, fun ys p h1 h2 hp => by rw [srt_eq h1 h2]; exact q p hp⟩
def pSorted (rs : List RV) (s : MS) : Out RV := match rs with
  | [r] => match dictOf s r with
    | some kvs => match intsOf (kvs.map (·.1)) with
      | some ks => .ok (.own (.lst ((srtI ks).map .int))) s
      | none => .bad
    | none => match (lstOf s r).bind intsOf with
      | some ns => .ok (.own (.lst ((srtI ns).map .int))) s
      | none => .bad
  | _ => .bad
theorem key_ints {kvs : List (MV × MV)} {dk : List (Key × V)} (h : kvs.map (·.1) = dk.map fun q => keyMV q.1) : ∀ {ks : List Int}, intsOf (kvs.map (·.1)) = some ks → dk.map (·.1) = ks.map Sum.inl := by
  rw [h]
  clear h
  induction dk with
  | nil => intro ks e; cases e; rfl
  | cons q r ih =>
    intro ks e
    obtain ⟨k, v⟩ := q
    cases k with
    | inl i =>
      simp only [List.map_cons, keyMV, intsOf, Option.map_eq_some_iff] at e
      obtain ⟨t, e1, rfl⟩ := e
      simp only [List.map_cons, ih e1]
    | inr x => simp [keyMV, intsOf] at e
theorem VRs_ints {K : PySem.W.Frag} {G : Gh} {H : Hp} : ∀ ns : List Int, VRs K G H (ns.map MV.int) (ns.map V.int)
  | [] => VRs.nil (K := K) (G := G) (H := H)
  | n :: ns => VRs.cons (VR.mkInt (K := K) (G := G) (H := H)) (VRs_ints ns)
theorem pr_sortA : PrimC R (rSortA R.K) pSorted := fun {F W σ G H G2 H2 s2 rs vs Q} w rr o => by
  unfold pSorted at o
  split at o
  · obtain ⟨v, t, rfl, r1, rfl⟩ := rr
    split at o
    · rename_i kvs hd
      obtain ⟨a, dk, rfl, ha, dd⟩ := dict_ok w.rel r1 hd
      split at o
      · rename_i ks hk
        exact .inr ⟨a, dk, ks, rfl, ha, key_ints dd.1 hk, newLst w (VRs_ints _) o⟩
      · exact o.elim
    · split at o
      · rename_i ns e
        simp only [Option.bind_eq_some_iff] at e
        obtain ⟨xs, e1, e2⟩ := e
        obtain ⟨a, ws, rfl, sq, h⟩ := lst_ok w.rel r1 e1
        have := ints_ok h e2
        subst this
        exact .inl ⟨a, ns, rfl, sq, newLst w (VRs_ints _) o⟩
      · exact o.elim
  · exact o.elim
theorem boot_sorted : bootBuiltins "sorted" = some (.builtin "sorted") := by decide +kernel
theorem je_sorted (ha : JA X R W (e :: es) fs) (he : starEach (e :: es) X.env = (false, eval e X.env) :: starEach es X.env := by rfl) (hpl : (backTo pos (starEach es X.env)).any (·.1) = false := by rfl) (hm : X.mg "sorted" = none) (hg : Gl X "sorted" := by rfl) (hc : X.calm = true := by rfl) :
    JE X R W (.Call (.Name "sorted" pp) (e :: es) [] pos) (mCallB pSorted fs) := je_callB (call_sort_a hc) (fun h => h ▸ pr_sortA) hm boot_sorted ha hg (he := he) (hpl := hpl)
/-! o.append, o.pop with what stands there now -/
end
end Mi
set_option Elab.async false
set_option linter.all false
set_option maxRecDepth 100000
set_option maxHeartbeats 4000000
namespace Mi
open PySem PySem.Spec PyProof.Rows L2
section
variable {X : Cx} {R : RC} {W : WX} {pos pp apos cpos : Pos} {o e : Expr} {es : List Expr} {kws : List Keyword} {x m : Str}
/-! what is not reached -/
def mBad : MSt := fun _ => .bad
def eBad : ME := fun _ => .bad
def tBad : MS → Out Bool := fun _ => .bad
theorem js_bad {st : Stmt} : JS X R W st mBad := fun _ F => ⟨fun _ _ _ _ _ _ ⟨_, _, _, h⟩ => h.elim⟩
theorem je_bad : JE X R W e eBad := fun _ F => ⟨fun _ _ _ _ _ _ ⟨_, _, _, h⟩ => h.elim⟩
/-! an int among the globals -/
theorem je_gint {i : Int} (hm : ∃ t, X.mg x = some (.int i t)) (hg : Gl X x := by rfl) (hd : (x == ("__debug__" : Str)) = false := by decide) : JE X R W (.Name x pos) (mC (.int i)) := by
  obtain ⟨t, hm⟩ := hm
  exact je_glob hm (v := .int i) ⟨t, rfl⟩ (fun G H => VR.mkInt (K := R.K) (G := G) (H := H)) hg hd
/-! methods with keywords -/
variable {f : Addr} {fd : FuncData} {ps ks : List Str} {n np k : Nat} {run : Fn} {idx : List Nat} {fo : ME} {fa fk : MS → Out (List MV)} {pl : Sem Bool}
def mMethK (c : Nat) (run : Fn) (n np nk : Nat) (idx : List Nat) (fo : ME) (fa fk : MS → Out (List MV)) : ME := fun s => (fo s).bind fun r s1 => match r with
  | .v (.ref q) => match s1.hp[q]? with
    | some (.inst c' _) => if c' = c then (fa s1).bind fun xs s2 => (fk s2).bind fun ys s3 => if xs.length + 1 = np ∧ ys.length = nk ∧ (permL idx (.ref q :: xs ++ ys)).length = n then mRun run (permL idx (.ref q :: xs ++ ys)) s3 else .bad else .bad
    | _ => .bad
  | _ => .bad
theorem je_methK (c : Nat) (hc : Cls X.K (R.cls c)) (hm : Meth X.K (R.cls c) m f) (Fo : FnOk X.prog X.w X.K X.mg X.base (L2.CX X.prog X.w) k f fd ps (spF R n run)) (tk : Takes X W) (hr : Room k X.A) (hb : KB fd ps ks np idx)
    (ho : JE X R W o fo) (ha : JAs X R W (e :: es) fa) (hkw : JKs X R W kws fk) (hnm : m ∉ R.flds c := by decide) (he : starEach (e :: es) X.env = (false, eval e X.env) :: starEach es X.env := by rfl)
    (hall : (backToKw pos (keywordEach kws X.env)).all (·.1.isSome) = true := by rfl) (hks : (backToKw pos (keywordEach kws X.env)).filterMap (·.1) = ks := by rfl)
    (hpl : ((backTo pos (starEach (e :: es) X.env)).any (·.1) || (backToKw pos (keywordEach kws X.env)).any (·.1.isNone)) = false := by rfl)
    (ht : eval (.Call (.Attribute o m apos) (e :: es) kws pos) X.env = (do
      let ov ← eval o X.env
      standAt apos.atName
      let (f, first) ← holding [ov] (getMethod ov m pl)
      callWith pos f first (backTo pos (starEach (e :: es) X.env)) (backToKw pos (keywordEach kws X.env))) := by rfl) : JE X R W (.Call (.Attribute o m apos) (e :: es) kws pos) (mMethK c run n np ks.length idx fo fa fk) := fun hK F => by
  refine ⟨fun pins s σ H Q I h => ?_⟩
  refine PySem.W.methodCall_KW (pl := pl) (thn ((ho hK F).run pins s σ H _ I (first (M := rlE) h)) fun u s1 ⟨x, H1, I1, rx, G, r, m1, G1, w, rr, o⟩ => ?_) ht
  have rr : RR R σ H G1 H1 r x := rr
  split at o
  · rename_i q rr0
    split at o
    · rename_i c' fs hn
      split at o
      · rename_i ec
        subst ec
        obtain ⟨a, dx, hfs, rfl, ga, ha1, _, _, hno, _⟩ := obj_at w.rel rr hn
        obtain rfl : u = Value.ref a := rx
        refine getmeth_ok I1 ha1 hc hm (hno m hnm) ?_
        refine PySem.W.callWith_KW (first := [.ref a]) (h₀ := X.base) I.ok.mod.kin hm.kp hall (thn ((ha hK F).run pos pins s1 σ H1 _ I1 (next (M := rlS) w o)) fun us s2 ⟨vs, H2, I2, r2, xs, m2, G2, w2, e12, rr2, o2⟩ => ?_) hpl he
        refine thn ((hkw hK F).run pos pins s2 σ H2 _ I2 (next (M := rlS) w2 o2)) fun ws s3 ⟨zs, H3, I3, r3, ys, m3, G3, w3, e23, rr3, o3⟩ => ⟨I3.kIn, ?_⟩
        have rr2 : VRs R.K G2 H2 xs vs := rr2
        have rr3 : VRs R.K G3 H3 ys zs := rr3
        split at o3
        · rename_i hl
          rw [hks]
          have hw : ws.length = ks.length := by rw [← r3.length, ← rr3.length]; exact hl.2.1
          have hu : (Value.ref a :: us).length = np := by rw [List.length_cons, ← r2.length, ← rr2.length]; exact hl.1
          have v0 : VR R.K G3 H3 (.ref q) (.ref a) := VR.mono (e12.mo.trans e23.mo) _ _ (show VR R.K G1 H1 (.ref q) (.ref a) from rr)
          have vs3 : VRs R.K G3 H3 (.ref q :: xs ++ ys) (.ref a :: vs ++ zs) := (VRs.cons v0 (VRs.mono e23.mo _ _ rr2)).append rr3
          have vu : Vals (V.ref a :: vs ++ zs) (Value.ref a :: us ++ ws) := Vals.append (.cons rfl r2) r3
          exact run_args (E := WE W) (args := ⟨Value.ref a :: us, ks.zip ws⟩) Fo hr (hb s3 (Value.ref a :: us) ws hu hw) (passAt tk σ) I3 (vals_perm vu idx) (run_sp w3 (vs3.perm idx) hl.2.2 o3)
        · exact o3.elim
      · exact o.elim
    · exact o.elim
  · exact o.elim
theorem je_methK0 (c : Nat) (hc : Cls X.K (R.cls c)) (hm : Meth X.K (R.cls c) m f) (Fo : FnOk X.prog X.w X.K X.mg X.base (L2.CX X.prog X.w) k f fd ps (spF R n run)) (tk : Takes X W) (hr : Room k X.A) (hb : KB fd ps ks 1 idx)
    (ho : JE X R W o fo) (hkw : JKs X R W kws fk) (hnm : m ∉ R.flds c := by decide)
    (hall : (backToKw pos (keywordEach kws X.env)).all (·.1.isSome) = true := by rfl) (hks : (backToKw pos (keywordEach kws X.env)).filterMap (·.1) = ks := by rfl)
    (hpl : ((backTo pos (starEach [] X.env)).any (·.1) || (backToKw pos (keywordEach kws X.env)).any (·.1.isNone)) = false := by rfl)
    (ht : eval (.Call (.Attribute o m apos) [] kws pos) X.env = (do
      let ov ← eval o X.env
      standAt apos.atName
      let (f, first) ← holding [ov] (getMethod ov m pl)
      callWith pos f first (backTo pos (starEach [] X.env)) (backToKw pos (keywordEach kws X.env))) := by rfl) : JE X R W (.Call (.Attribute o m apos) [] kws pos) (mMethK c run n 1 ks.length idx fo (fun s => .ok [] s) fk) := fun hK F => by
  refine ⟨fun pins s σ H Q I h => ?_⟩
  refine PySem.W.methodCall_KW (pl := pl) (thn ((ho hK F).run pins s σ H _ I (first (M := rlE) h)) fun u s1 ⟨x, H1, I1, rx, G, r, m1, G1, w, rr, o⟩ => ?_) ht
  have rr : RR R σ H G1 H1 r x := rr
  split at o
  · rename_i q rr0
    split at o
    · rename_i c' fs hn
      split at o
      · rename_i ec
        subst ec
        obtain ⟨a, dx, hfs, rfl, ga, ha1, _, _, hno, _⟩ := obj_at w.rel rr hn
        obtain rfl : u = Value.ref a := rx
        refine getmeth_ok I1 ha1 hc hm (hno m hnm) ?_
        simp only [Out.bind_ok] at o
        refine PySem.W.callWith_KW0 (first := [.ref a]) (h₀ := X.base) I.ok.mod.kin hm.kp hall (thn ((hkw hK F).run pos pins s1 σ H1 _ I1 (next (M := rlS) w o)) fun ws s3 ⟨zs, H3, I3, r3, ys, m3, G3, w3, e23, rr3, o3⟩ => ⟨I3.kIn, ?_⟩) hpl
        have rr3 : VRs R.K G3 H3 ys zs := rr3
        split at o3
        · rename_i hl
          rw [hks]
          have hw : ws.length = ks.length := by rw [← r3.length, ← rr3.length]; exact hl.2.1
          have v0 : VR R.K G3 H3 (.ref q) (.ref a) := VR.mono e23.mo _ _ (show VR R.K G1 H1 (.ref q) (.ref a) from rr)
          have vs3 : VRs R.K G3 H3 (.ref q :: [] ++ ys) (.ref a :: [] ++ zs) := (VRs.cons v0 (VRs.nil (K := R.K))).append rr3
          have vu : Vals (V.ref a :: [] ++ zs) (Value.ref a :: [] ++ ws) := Vals.append (.cons rfl .nil) r3
          exact run_args (E := WE W) (args := ⟨[Value.ref a], ks.zip ws⟩) Fo hr (hb s3 [Value.ref a] ws rfl hw) (passAt tk σ) I3 (vals_perm vu idx) (run_sp w3 (vs3.perm idx) hl.2.2 o3)
        · exact o3.elim
      · exact o.elim
    · exact o.elim
  · exact o.elim
/-- o.m(), what lacks being a default -/
def mMethD (c : Nat) (run : Fn) (n : Nat) (fo : ME) (dm : List MV) : ME := fun s => (fo s).bind fun r s1 => match r with
  | .v (.ref q) => match s1.hp[q]? with
    | some (.inst c' _) => if c' = c ∧ dm.length + 1 = n then mRun run (.ref q :: dm) s1 else .bad
    | _ => .bad
  | _ => .bad
theorem run_dflt {pins : List (Addr × Obj)} {σ : L2.St} {H : Hp} {s : Shared} {Q : VK} {us ds : List Value} {vs dvs : List V} {sp : Sp} {E : L2.St → XK} (Fo : FnOk X.prog X.w X.K X.mg X.base (L2.CX X.prog X.w) k f fd ps sp) (hr : Room k X.A) (hb : Binds X.K fd ps ds) (hd : Vals dvs ds) (hx : PassesAt (L2.CX X.prog X.w) X σ (E σ))
    (I : Inv X pins σ H s) (r : Vals vs us) (h : sp (vs ++ dvs) H Q (E σ)) : wpAny (model X.prog X.w) X.A (call (.ref f) us) (EP X pins σ Q) X.xe s := by
  have r2 := r.append hd
  have hl : (us ++ ds).length = ps.length := by rw [← r2.length]; exact Fo.len _ _ _ _ h
  exact run_args (args := ⟨us, []⟩) Fo hr (hb s us I.kIn hl) hx I r2 h
theorem je_methD (c : Nat) {dm : List MV} {dvs : List V} (hc : Cls X.K (R.cls c)) (hm : Meth X.K (R.cls c) m f) (Fo : FnOk X.prog X.w X.K X.mg X.base (L2.CX X.prog X.w) k f fd ps (spF R n run)) (tk : Takes X W) (hr : Room k X.A) (hb : ∃ ds, Vals dvs ds ∧ Binds X.K fd ps ds) (hv : ∀ G H, VRs R.K G H dm dvs)
    (ho : JE X R W o fo) (hnm : m ∉ R.flds c := by decide)
    (ht : eval (.Call (.Attribute o m apos) [] [] pos) X.env = (do
      let ov ← eval o X.env
      standAt apos.atName
      let (f, first) ← holding [ov] (getMethod ov m pl)
      callWith pos f first (backTo pos (starEach [] X.env)) (backToKw pos (keywordEach [] X.env))) := by rfl) : JE X R W (.Call (.Attribute o m apos) [] [] pos) (mMethD c run n fo dm) := fun hK F => by
  obtain ⟨ds, hd, hb⟩ := hb
  refine ⟨fun pins s σ H Q I h => ?_⟩
  refine PySem.W.methodCall_KW (pl := pl) (thn ((ho hK F).run pins s σ H _ I (first (M := rlE) h)) fun u s1 ⟨x, H1, I1, rx, G, r, m1, G1, w, rr, o⟩ => ?_) ht
  have rr : RR R σ H G1 H1 r x := rr
  split at o
  · rename_i q rr0
    split at o
    · rename_i c' fs hn
      split at o
      · rename_i ec
        obtain ⟨ec, hl⟩ := ec
        subst ec
        obtain ⟨a, dx, hfs, rfl, ga, ha1, _, _, hno, _⟩ := obj_at w.rel rr hn
        obtain rfl : u = Value.ref a := rx
        refine getmeth_ok I1 ha1 hc hm (hno m hnm) ?_
        have sp := run_sp (xs := .ref q :: dm) (n := n) w (VRs.cons (show VR R.K G1 H1 (.ref q) (.ref a) from rr) (hv _ _)) hl o
        exact PySem.W.callWith_K0 (first := [.ref a]) I1.kIn hm.kp (run_dflt (us := [.ref a]) (vs := [.ref a]) (E := WE W) Fo hr hb hd (passAt tk σ) I1 (.cons rfl .nil) sp)
      · exact o.elim
    · exact o.elim
  · exact o.elim
theorem vr_bl {K : PySem.W.Frag} {b : Bool} : ∀ G H, VRs K G H [.bl b] [.bl b] := fun G H => VRs.cons (VR.mkBl (K := K) (G := G) (H := H)) (VRs.nil (K := K) (G := G) (H := H))
/-! append to a list that nobody holds -/
def mAppO (fo : ME) (fa : MS → Out (List MV)) : ME := fun s => (fo s).bind fun r s1 => match r with
  | .own (.lst xs) => (fa s1).bind fun rs s2 => match rs with
    | [_] => if xs.length < sizeLine then .ok (.v .non) s2 else .bad
    | _ => .bad
  | _ => .bad
theorem je_appendO (ho : JE X R W o fo) (ha : JAs X R W [e] fa) (hbase : attributeBase o "append" X.env (eval o X.env) = eval o X.env := by rfl)
    (hfew : ((backTo cpos (starEach [e] X.env)).all (fun x => !x.1) && (backToKw cpos (keywordEach [] X.env)).all (fun x => x.1.isSome) && decide ([e].length + ([] : List Keyword).length + (if ([] : List Keyword).isEmpty then 0 else 1) < 30)) = true := by rfl)
    (hline : (apos.endLine == cpos.line) = true := by rfl) (hs : starEach [e] X.env = (false, eval e X.env) :: starEach [] X.env := by rfl) (hplain : (backTo cpos (starEach [] X.env)).any (·.1) = false := by rfl) :
    JE X R W (.Call (.Attribute o "append" apos) [e] [] cpos) (mAppO fo fa) := fun hK F =>
  PE.imp (pe_bm PySem.F.plainAttrs_list PySem.F.slot_list_append PySem.F.type_list_append mt_append (ho hK F) (ha hK F) hbase hfew hline hs hplain) fun σ H Q h => by
    refine (first (M := rlE) h).mono fun x H1 ⟨G, r, s1, G1, w, rr, o⟩ => ?_
    have rr : RR R σ H G1 H1 r x := rr
    split at o
    · rename_i xs
      obtain ⟨a, rfl, ha0, ga, vs, ha1, hvs⟩ := rr
      refine ⟨.inl ⟨rfl, vs, .inl (.inl ha1)⟩, ?_⟩
      refine (next (M := rlS) w o).mono fun us H2 ⟨rs, s2, G2, w2, e12, rr2, o2⟩ => ?_
      have rr2 : VRs R.K G2 H2 rs us := rr2
      obtain ⟨ha2, ga2⟩ := e12.un a _ ha1 ga
      split at o2
      · obtain ⟨u, t, rfl, p, q⟩ := rr2.inv
        unfold VRs at q; subst q
        split at o2
        · rename_i hz
          exact ⟨a, vs, u, rfl, rfl, ha2, by rw [← hvs.length]; exact hz, o2 G2 (upd H2 a (.lst (vs ++ [u]))) .non (w2.rel.updNone ga2 (fresh_back w2.st ha0)) (w2.evo.updNew ha0 ga2) (VR.mkNon (K := R.K) (G := G2) (H := upd H2 a (.lst (vs ++ [u]))))⟩
        · exact o2.elim
      · exact o2.elim
    · exact o.elim
end
/-- one keyword-only parameter with a truth as its default -/
theorem dflt_one {K : PySem.W.Frag} {f D : Addr} {st : Stmt} {nm x qual : Str} {ps : List Str} {oc kV dc pm cd ct : Value} {od an : Option Addr} {sl : Array (Option Value)} {b : Bool} {n : Nat}
    (l : K.lookup f = some ⟨oc, od, .func (PySem.W.fnOf x qual (defArgs st) (defBody st) (defScope st) .none kV dc pm an cd ct), sl⟩) (c : PySem.W.codeIn K cd qual = true) (k : PySem.W.keepIn K (.ref f) = true) (kd : kV = .ref D) (kn : PySem.W.nsIn K D nm = some (some (.bool b)))
    (h : ∀ (D : Addr) (dc pm : Value) (an : Option Addr) (cd ct : Value) (us : List Value) (u : Value), us.length = n → KwChain D [(nm, u)] (bindArgs (PySem.W.fnOf x qual (defArgs st) (defBody st) (defScope st) .none (.ref D) dc pm an cd ct) ⟨us, []⟩) (ps.zip (us ++ [u]))) (hn : n + 1 = ps.length := by rfl) :
    ∃ ds, Vals [V.bl b] ds ∧ Binds K (PySem.W.fnOf x qual (defArgs st) (defBody st) (defScope st) .none kV dc pm an cd ct) ps ds := by
  subst kd
  have F : FunD K x qual (defArgs st) (defBody st) (defScope st) [] [(nm, V.bl b)] f (PySem.W.fnOf x qual (defArgs st) (defBody st) (defScope st) .none (.ref D) dc pm an cd ct) :=
    ⟨⟨oc, od, .none, .ref D, dc, pm, an, cd, ct, sl, rfl, l, c, .inl ⟨rfl, rfl⟩, .inr ⟨D, rfl, fun q hq => by
      rcases List.mem_cons.mp hq with e | e
      · subst e; exact ⟨_, kn, rfl⟩
      · cases e⟩⟩, k⟩
  exact F.binds0 n (by simp) hn fun D dc pm an cd ct us ks h1 h2 => by
    match ks, h2 with
    | [u], _ => exact h D dc pm an cd ct us u h1
end Mi
set_option Elab.async false
set_option linter.all false
set_option maxRecDepth 100000
set_option maxHeartbeats 4000000
namespace Mi
open PySem PySem.Spec PyProof.Rows L2
/-! dict(d) -/
section
variable {X : Cx} {R : RC} {W : WX} {F : FI} {σ : L2.St} {G G1 : Gh} {H H1 : Hp} {s s1 : MS} {pos pp : Pos} {e e2 : Expr} {es : List Expr} {fs : MS → Out (List RV)}
theorem newDict {kvs : List (MV × MV)} {dk : List (Key × V)} {Q : VK} (w : Way R F σ G H G1 H1 s1) (r : DD R.K G1 H1 kvs dk) (h : OutX rlE R F W σ G H (.ok (.own (.dict kvs)) s1) Q) : ∀ p, H1 p = none → Q (.ref p) (upd H1 p (.dK dk)) := fun p hp => by
  have g := w.rel.noRole hp
  have hH := fresh_back w.evo hp
  exact h G1 _ _ (w.rel.alloc hp) (w.evo.updNew hH g) ⟨p, rfl, hH, g, _, upd_same, dk, rfl, r.1, VRs.mono (Mo.upd (by rw [g]; simp)) _ _ r.2⟩
def pairsOf : List MV → Option (List (MV × MV))
  | [] => some []
  | .tup [k, x] :: r => (pairsOf r).map ((k, x) :: ·)
  | _ => none
def pDictOf (rs : List RV) (s : MS) : Out RV := match rs with
  | [r] => match dictOf s r with
    | some kvs => .ok (.own (.dict kvs)) s
    | none => match (lstOf s r).bind pairsOf with
      | some ps => if keysOk ps = true then .ok (.own (.dict (mergeM [] ps))) s else .bad
      | none => .bad
  | _ => .bad
theorem pairs_ok {K : PySem.W.Frag} {G : Gh} {H : Hp} : ∀ {xs : List MV} {vs : List V} {ps : List (MV × MV)}, VRs K G H xs vs → pairsOf xs = some ps → keysOk ps = true → ∃ (as : List Addr) (kvs : List (Key × V)), vs = as.map V.ref ∧ Paired (fun p kv => SqT K H p [kV kv.1, kv.2]) as kvs ∧ DD K G H ps kvs
  | [], vs, ps, h, e, _ => by
    cases e
    unfold VRs at h; subst h
    exact ⟨[], [], rfl, .nil, rfl, VRs.nil (K := K) (G := G) (H := H)⟩
  | x :: xs, vs, ps, h, e, hk => by
    obtain ⟨v, r, rfl, p, q⟩ := h.inv
    match x, e with
    | .tup [k, y], e =>
      simp only [pairsOf, Option.map_eq_some_iff] at e
      obtain ⟨qs, e1, rfl⟩ := e
      simp only [keysOk, List.all_cons, Bool.and_eq_true] at hk
      obtain ⟨kk, hkk⟩ := Option.isSome_iff_exists.mp hk.1
      obtain ⟨as, kvs, rfl, pr, dd⟩ := pairs_ok q e1 hk.2
      obtain ⟨a, ws, rfl, sq, hw⟩ := p.tup
      obtain ⟨v1, t1, rfl, p1, hw⟩ := hw.inv
      obtain ⟨v2, t2, rfl, p2, hw⟩ := hw.inv
      unfold VRs at hw; subst hw
      obtain ⟨rfl, e2⟩ := keyOf_V p1 hkk
      exact ⟨a :: as, (kk, v2) :: kvs, rfl, .cons sq pr, DD.cons e2.symm p2 dd⟩
theorem call_dictA {X : Cx} (hc : X.calm = true) : CallR X (.type "dict") (fun xs H Q => (∃ (a : Addr) (kvs : List (Key × V)), xs = [.ref a] ∧ Rd H a (.dK kvs) ∧ ∀ p, H p = none → Q (.ref p) (upd H p (.dK kvs))) ∨
    ∃ (a : Addr) (ps : List Addr) (kvs : List (Key × V)), xs = [.ref a] ∧ SqL X.K H a (ps.map V.ref) ∧ Paired (fun p kv => SqT X.K H p [kV kv.1, kv.2]) ps kvs ∧ ∀ p, H p = none → Q (.ref p) (upd H p (.dK (mergeK [] kvs)))) := by
  intro pins s σ H xs us Q I r h
  rcases h with h | h
  · exact call_dictD pins s σ H xs us Q I r h
  · exact call_dictP hc pins s σ H xs us Q I r h
theorem pr_dictOf {K : PySem.W.Frag} (hK : R.K = K) : PrimC R (fun xs H Q => (∃ (a : Addr) (kvs : List (Key × V)), xs = [.ref a] ∧ Rd H a (.dK kvs) ∧ ∀ p, H p = none → Q (.ref p) (upd H p (.dK kvs))) ∨
    ∃ (a : Addr) (ps : List Addr) (kvs : List (Key × V)), xs = [.ref a] ∧ SqL K H a (ps.map V.ref) ∧ Paired (fun p kv => SqT K H p [kV kv.1, kv.2]) ps kvs ∧ ∀ p, H p = none → Q (.ref p) (upd H p (.dK (mergeK [] kvs)))) pDictOf := fun {F W σ G H G2 H2 s2 rs vs Q} w rr o => by
  subst hK
  unfold pDictOf at o
  split at o
  · obtain ⟨v, t, rfl, r1, rfl⟩ := rr
    split at o
    · rename_i kvs hd
      obtain ⟨a, dk, rfl, ha, dd⟩ := dict_ok w.rel r1 hd
      exact .inl ⟨a, dk, rfl, ha, newDict w dd o⟩
    · split at o
      · rename_i ps e
        simp only [Option.bind_eq_some_iff] at e
        obtain ⟨xs, e1, e2⟩ := e
        split at o
        · rename_i hk
          obtain ⟨a, ws, rfl, sq, h⟩ := lst_ok w.rel r1 e1
          obtain ⟨as, kvs, rfl, pr, dd⟩ := pairs_ok h e2 hk
          have dm := dd.merge (acc := []) (dk := []) ⟨rfl, VRs.nil (K := R.K) (G := G2) (H := H2)⟩
          exact .inr ⟨a, as, kvs, rfl, sq, pr, newDict w dm o⟩
        · exact o.elim
      · exact o.elim
  · exact o.elim
theorem je_dictOf (ha : JA X R W [e] fs) (hm : X.mg "dict" = none) (hg : Gl X "dict" := by rfl) (he : starEach [e] X.env = (false, eval e X.env) :: starEach [] X.env := by rfl) (hpl : (backTo pos (starEach [] X.env)).any (·.1) = false := by rfl) (hc : X.calm = true := by rfl) :
    JE X R W (.Call (.Name "dict" pp) [e] [] pos) (mCallB pDictOf fs) := je_callTy (call_dictA hc) (fun h => pr_dictOf h) hm boot_dict' ha hg (he := he) (hpl := hpl)
/-! zip of two boxed lists -/
def mZip (fs : MS → Out (List RV)) : MS → Out MI := fun s => (fs s).bind fun rs s1 => match rs with
  | [.v (.ref n), .v (.ref m)] => match seqOf s1 (.v (.ref n)), seqOf s1 (.v (.ref m)) with
    | some xs, some ys => .ok ⟨List.zipWith (fun x y => .tup [x, y]) xs ys, fun s' => s'.base = s1.base ∧ seqOf s' (.v (.ref n)) = some xs ∧ seqOf s' (.v (.ref m)) = some ys⟩ s1
    | _, _ => .bad
  | _ => .bad
theorem ref_later {n : Nat} {v : V} {Hs : Hp} (h : RR R σ Hs G H (.v (.ref n)) v) {G2 : Gh} {H2 : Hp} (m : Mo G H G2 H2) {σ2 : L2.St} {Hs2 : Hp} : RR R σ2 Hs2 G2 H2 (.v (.ref n)) v := VR.mono m _ _ (show VR R.K G H (.ref n) v from h)
theorem ji_zip {elts : List Expr} {kk : Nat} {tpos : Pos} (hm : X.mg "zip" = none) (ha : JA X R W [e, e2] fs) (hg : Gl X "zip" := by rfl) (hs : starEach [e, e2] X.env = (false, eval e X.env) :: starEach [e2] X.env := by rfl) (hpl : (backTo pos (starEach [e2] X.env)).any (·.1) = false := by rfl) :
    JI X R W (.Tuple elts kk tpos) (.Call (.Name "zip" pp) [e, e2] [] pos) (mZip fs) := fun hK F =>
  PI.imp (RZ.pi_zipA hg hm (ha hK F) hs hpl) fun σ H Rr h => (first (M := rlR) h).mono fun vs H1 ⟨G, rs, s1, G1, w, rr, o⟩ => by
    have rr : RRs R σ H G1 H1 rs vs := rr
    split at o
    · rename_i n m
      obtain ⟨v, t, rfl, r1, v2, t2, rfl, r2, rfl⟩ := rr
      split at o
      · rename_i xs ys e1 e2'
        obtain ⟨a, us, rfl, k1, q1⟩ := list_of_seq w.rel r1 (fun ys q => by cases q) e1
        obtain ⟨b, ws, rfl, k2, q2⟩ := list_of_seq w.rel r2 (fun ys q => by cases q) e2'
        refine ⟨a, b, us, ws, rfl, .inl ⟨by rw [← hK]; exact k1, by rw [← hK]; exact k2, o _ _ _ w.rel w.evo ?_⟩⟩
        intro F2 G2 H2 s2 σ2 rel ev ck
        obtain ⟨_, c1, c2⟩ := ck
        obtain ⟨a', us2, z1, l1, p1⟩ := list_of_seq rel (ref_later r1 ev.mo (Hs2 := H2)) (fun ys q => by cases q) c1
        obtain ⟨b', ws2, z2, l2, p2⟩ := list_of_seq rel (ref_later r2 ev.mo (Hs2 := H2)) (fun ys q => by cases q) c2
        cases z1
        cases z2
        rw [hK] at l1 l2
        have hl : (List.zipWith (fun x y => MV.tup [x, y]) xs ys).length = min xs.length ys.length := by simp
        refine ⟨fun i hi => ?_, ?_, fun i x v H3 hx y => ?_⟩
        · have hi : i < min xs.length ys.length := by rw [← hl]; exact hi
          obtain ⟨x, hx, _⟩ := p1.get (List.getElem?_eq_getElem (by omega : i < xs.length))
          obtain ⟨y, hy, _⟩ := p2.get (List.getElem?_eq_getElem (by omega : i < ys.length))
          exact ⟨us2, ws2, x, y, l1, l2, hx, hy⟩
        · show (Itz X.K a b).stop (List.zipWith (fun x y => MV.tup [x, y]) xs ys).length H2
          rw [hl]
          refine ⟨us2, ws2, l1, l2, ?_⟩
          rw [← p1.length, ← p2.length]
          omega
        · obtain ⟨T, x1, y1, rfl, hT, rfl, f1, f2⟩ := y
          have hx : (List.zipWith (fun x y => MV.tup [x, y]) xs ys)[i]? = some x := hx
          rw [List.getElem?_zipWith] at hx
          split at hx
          · rename_i x0 y0 g1 g2
            cases hx
            obtain ⟨u, hu, vu⟩ := p1.get g1
            obtain ⟨u', hu', vu'⟩ := p2.get g2
            rw [f1 us2 l1] at hu; cases hu
            rw [f2 ws2 l2] at hu'; cases hu'
            exact .inr ⟨T, _, _, rfl, rfl, hT, rfl, VRs.cons vu (VRs.cons vu' (VRs.nil (K := R.K)))⟩
          · cases hx
      · exact o.elim
    · exact o.elim
end
/-! o.f, o.g, .. = values -/
def gFldT (K : PySem.W.Frag) (ta : TE) (f : Str) : TG := fun v σ H Q => ta σ H fun x H2 => ∃ a C dx fs, x = .ref a ∧ H2 a = some (.ins C dx fs) ∧ Cls K C ∧ NoAttr K C f ∧ fs.length < 1000 ∧ Q σ (upd H2 a (.ins C dx (putF f v fs)))
theorem pg_fld {X : Cx} {o : Expr} {f : Str} {ta : TE} {pos' : Pos} (ho : PE X o ta) (ha : ∀ v, assign (.Attribute o f pos') X.env v = (do
    let ov ← holding [v] (eval o X.env)
    standAt pos'.atName
    holding [v, ov] (setAttr ov f v)
    release [v, ov] []) := by intro _; rfl) : PG X (.Attribute o f pos') (gFldT X.K ta f) := by
  refine ⟨fun pins s σ H v u Q I r h => ?_⟩
  rw [ha]
  refine wpAny_bind (wpAny_holding (thn (ho.run pins s σ H _ I h) fun ov s1 ⟨x, H1, I1, r1, a, C, dx, fs, ex, ea, c, n, l, q⟩ => ?_))
  subst ex
  obtain rfl : ov = Value.ref a := r1
  refine wpAny_bind (wpAny_standAt (wpAny_bind (wpAny_holding (setattr_ok I1 ea c n l r fun s3 I3 => ?_))))
  exact wpAny_release ⟨σ, _, I3, q⟩
section
variable {X : Cx} {R : RC} {W : WX} {pos pos' : Pos} {o : Expr} {ts : List Expr} {nm : Str}
def tFs (R : RC) (F : FI) (ft : List MV → MS → Option MS) : TGs := fun vs σ H Q => ∃ G s xs, Rel R F G s σ H ∧ VRs R.K G H xs vs ∧ match ft xs s with
  | some s' => ∀ G' H', Rel R F G' s' σ H' → Evo (· < F.base) G H G' H' → Q σ H'
  | none => False
def JFs (X : Cx) (R : RC) (ts : List Expr) (ft : List MV → MS → Option MS) : Prop := R.K = X.K → ∀ F, PGs X ts (tFs R F ft)
theorem jfs_nil : JFs X R [] gsNil := fun _ F => PGs.imp pgs_nil fun v σ H Q ⟨G, s, xs, rel, vr, h⟩ => by
  cases xs with
  | nil => unfold VRs at vr; exact ⟨vr, h G H rel .refl⟩
  | cons x xs => exact h.elim
/-- the field of a variable's object -/
def fsCons (c j i : Nat) (u : List MV → MS → Option MS) : List MV → MS → Option MS := fun xs s => match xs with
  | x :: r => match s.env[i]? with
    | some (some (.v (.ref n))) => match s.hp[n]? with
      | some (.inst c' fs) => if c' = c ∧ (noOwn fs[j]? = true ∨ s.base ≤ n) then u r { s with hp := s.hp.set n (.inst c (fs.set j (some (.v x)))) } else none
      | _ => none
    | _ => none
  | [] => none
theorem jfs_cons {x : Str} {px : Pos} {u : List MV → MS → Option MS} (c j i : Nat) (hc : Cls X.K (R.cls c)) (hno : NoAttr X.K (R.cls c) nm) (hv : JE X R (fun _ _ _ _ => False) (.Name x px) (mVar i)) (h2 : JFs X R ts u) (hj : (R.flds c)[j]? = some nm := by rfl) (nd : (R.flds c).Nodup := by decide) (hl : (R.flds c).length < 1000 := by decide)
    (hs : (assignEach (.Attribute (.Name x px) nm pos' :: ts) X.env).map (·.2) = assign (.Attribute (.Name x px) nm pos') X.env :: (assignEach ts X.env).map (·.2) := by rfl) : JFs X R (.Attribute (.Name x px) nm pos' :: ts) (fsCons c j i u) := fun hK F =>
  PGs.imp (pgs_cons (pg_fld (hv hK F)) (h2 hK F) hs) fun v σ H Q ⟨G, s, xs, rel, vr, h⟩ => by
    cases xs with
    | nil => exact h.elim
    | cons y xs =>
      obtain ⟨w, r, rfl, p, q⟩ := vr.inv
      simp only [fsCons] at h
      refine ⟨w, r, rfl, ?_⟩
      split at h
      · rename_i s' e
        split at e
        · rename_i n hi
          split at e
          · rename_i c' fs hn
            split at e
            · rename_i hcc
              obtain ⟨rfl, hold⟩ := hcc
              refine ⟨G, s, rel, ?_⟩
              have hm : mVar i s = .ok (.v (.ref n)) s := by unfold mVar; rw [hi]
              rw [hm]
              intro G1 H1 v1 rel1 ev1 rr1
              have rr1 : RR R σ H G1 H1 (.v (.ref n)) v1 := rr1
              obtain ⟨a, _, _, rfl, ga, _⟩ := obj_at rel1 rr1 hn
              obtain ⟨dx, hfs, ha, hln, rel2, evo⟩ := setFld_ok (sv := .v y) rel1 ga hn hj nd (by rw [← rel1.base]; exact hold) (.v (VR.mono ev1.mo _ _ p))
              have ev2 := evo G H (ev1.weak fun _ _ => trivial) fun b q => q.elim
              refine ⟨a, _, dx, hfs, rfl, ha, hc, hno, Nat.lt_of_le_of_lt hln hl, _, _, xs, rel2, VRs.mono ev2.mo _ _ q, ?_⟩
              rw [e]
              exact fun G' H' rel' ev' => h G' H' rel' (ev2.trans ev')
            · cases e
          · cases e
        · cases e
      · exact h.elim
def mAsgF (fv : MS → Out (List MV)) (n : Nat) (ft : List MV → MS → Option MS) : MSt := fun s => (fv s).bind fun xs s1 => if xs.length = n ∧ n ≤ sizeLine then (match ft xs s1 with | some s2 => .ok .next s2 | none => .bad) else .bad
theorem js_asgF {es : List Expr} {fv : MS → Out (List MV)} {n : Nat} {ft : List MV → MS → Option MS} {kt k2 : Nat} {pt : Pos} {p2 : Pos} (hc : X.calm = true) (he : JAs X R W es fv) (hg : JFs X R ts ft)
    (hn : (assignEach ts X.env).length = n := by rfl) (hst : (assignEach ts X.env).findIdx? (·.1) = none := by rfl)
    (hs : swapsWithSole [.Tuple ts kt pt] (.Tuple es k2 p2) pos.line X.env = pure false := by rfl) (hw : swappedStores [.Tuple ts kt pt] (.Tuple es k2 p2) X.env = pure none := by rfl)
    (h1 : (assignEach [.Tuple ts kt pt] X.env).map (·.2) = [assign (.Tuple ts kt pt) X.env] := by rfl) : JS X R W (.Assign [.Tuple ts kt pt] (.Tuple es k2 p2) pos) (mAsgF fv n ft) := fun hK F =>
  PS.imp (ps_asg (pe_tup (he hK F)) (pg_tup hc (hg hK F) hn hst) hs hw h1) fun D σ H h => by
    refine (firstS (M := rlS) h).mono fun vs H1 ⟨G, xs, s1, G1, w, vr, o⟩ => ?_
    have vr : VRs R.K G1 H1 xs vs := vr
    split at o
    · rename_i hl
      refine ⟨by rw [← vr.length, hl.1]; exact hl.2, fun p hp => ?_⟩
      have g := w.rel.noRole hp
      have mu : Mo G1 H1 G1 (upd H1 p (.tup vs)) := Mo.upd (by rw [g]; simp)
      refine ⟨p, vs, rfl, .inl (.inl upd_same), by rw [← vr.length, hl.1], G1, s1, xs, w.rel.alloc hp, VRs.mono mu _ _ vr, ?_⟩
      cases q : ft xs s1 with
      | none => rw [q] at o; exact o.elim
      | some s2 =>
        rw [q] at o
        exact fun G' H' rel ev => o G' σ H' rel ((w.evS.updNew (fresh_back w.evo hp) g).trans ev)
    · exact o.elim
end
end Mi
set_option Elab.async false
set_option linter.all false
set_option maxRecDepth 100000
set_option maxHeartbeats 4000000
namespace Mi
open PySem PySem.Spec PyProof.Rows L2
/-! zip of two tuples, strict -/
abbrev IsZipS (h : Heap) (z TI TO : Addr) (f0 : Value) : Prop :=
  h.get? z = some { cls := .type "zip", dict := none, data := .fields #[f0, .bool false, .bool true, .ref TI, .ref TO], slots := #[] }
section
variable {prog : Program} {w : World} {A : Around} {E : Value → Shared → Prop} {s : Shared}
theorem IsTuple_at {h h' : Heap} {l : Addr} {xs : Array Value} (x : h.IsTuple l xs) (k : ∀ o, h.get? l = some o → h'.get? l = some o) : h'.IsTuple l xs := by
  obtain ⟨o, ho, r⟩ := x
  exact ⟨o, k o ho, r⟩
theorem nextOrEnd_item {it l : Addr} {i : Nat} {items : Array Value} {x : Value} {Q : Option Value → Shared → Prop} (hit : s.heap.IsTupleIter it l i) (hl : s.heap.IsTuple l items) (hx : items[i]? = some x)
    (hQ : ∀ h', h'.IsTupleIter it l (i + 1) → Heap.SameBut it s.heap h' → Q (some x) { s with heap := h' }) : wpAny (model prog w) A (Builtin.SmallTypes.nextOrEnd (.ref it)) Q E s := by
  unfold Builtin.SmallTypes.nextOrEnd
  exact wpAny_bind (wpAny_attempt (RZ.nextOf_tuple_item hit hl hx fun h' a b => wpAny_pure (hQ h' a b)))
theorem nextOrEnd_end {it l : Addr} {i : Nat} {items : Array Value} {Q : Option Value → Shared → Prop} (hh : A.handled = none) (hit : s.heap.IsTupleIter it l i) (hl : s.heap.IsTuple l items) (hx : items[i]? = none)
    (hQ : ∀ h', Heap.ExtBut it s.heap h' → Q none { s with heap := h' }) : wpAny (model prog w) A (Builtin.SmallTypes.nextOrEnd (.ref it)) Q E s := by
  unfold Builtin.SmallTypes.nextOrEnd
  refine wpAny_bind (wpAny_attempt (RZ.nextOf_tuple_end hh hit hl hx fun h' e k he => ?_))
  obtain ⟨o, ho, hc⟩ := he
  exact wpAny_bind (wpAny_isInstance (T := "StopIteration") (b := true) ⟨o, ho, hc⟩ isSubtype_stop (wpAny_pure (hQ _ k)))
theorem zipS_next_item {z TI TO i1 i2 l1 l2 : Addr} {k1 k2 : Nat} {xs ys : Array Value} {x y a b : Value} {Q : Value → Shared → Prop} (D : ZipApart z TI TO i1 i2 l1 l2)
    (hz : IsZipS s.heap z TI TO .none) (hTI : IsPair s.heap TI (.ref i1) (.ref i2)) (hTO : IsPair s.heap TO a b)
    (h1 : s.heap.IsTupleIter i1 l1 k1) (h2 : s.heap.IsTupleIter i2 l2 k2) (hl1 : s.heap.IsTuple l1 xs) (hl2 : s.heap.IsTuple l2 ys) (hx : xs[k1]? = some x) (hy : ys[k2]? = some y)
    (hQ : ∀ h', IsZipS h' z TI TO (rawInt s.heap.objs.size) → IsPair h' TO x y → h'.IsTupleIter i1 l1 (k1 + 1) → h'.IsTupleIter i2 l2 (k2 + 1) → IsPair h' s.heap.objs.size x y → h'.objs.size = s.heap.objs.size + 1 →
      (∀ c o, c ≠ z → c ≠ TO → c ≠ i1 → c ≠ i2 → s.heap.get? c = some o → h'.get? c = some o) → Q (.ref s.heap.objs.size) { s with heap := h' }) :
    wpAny (model prog w) A (Builtin.«zip.__next__» ⟨[.ref z], []⟩) (fun fin s' => ∃ v, fin = .done (.ret v) ∧ Q v s') E s := by
  show wpAny _ _ (field (.ref z) 2 >>= _) _ _ _
  refine wpAny_bind (wpAny_field hz rfl (x := .bool true) rfl ?_)
  show wpAny _ _ (field (.ref z) 3 >>= _) _ _ _
  refine wpAny_bind (wpAny_field hz rfl (x := .ref TI) rfl ?_)
  refine wpAny_bind (wpAny_seqItems hTI rfl ?_)
  show wpAny _ _ (Builtin.SmallTypes.ownedTupleIsFree (.ref z) >>= _) _ _ _
  refine wpAny_bind ?_
  unfold Builtin.SmallTypes.ownedTupleIsFree
  refine wpAny_bind (wpAny_field hz rfl (x := .none) rfl (wpAny_pure ?_))
  simp only [if_true]
  refine wpAny_bind (wpAny_rule ?_)
  refine wpAny_bind (wpAny_field hz rfl (x := .ref TO) rfl ?_)
  refine wpAny_bind (wpAny_setField_rec hz (by simp) fun h₁ hz₁ hs₁ => ?_)
  replace hz₁ : IsZipS h₁ z TI TO .ellipsis := hz₁
  refine wpAny_bind ?_
  simp only [List.zipIdx_cons, List.zipIdx_nil, List.forIn_cons, List.forIn_nil]

  refine wpAny_bind (wpAny_bind (wpAny_onRaise ?_))
  show wpAny _ _ (Builtin.SmallTypes.nextOrEnd (.ref i1)) _ _ _
  refine nextOrEnd_item (h1.extBut hs₁.extBut D.i1z) (hl1.extBut hs₁.extBut D.l1z) hx fun h₂ h1₂ hs₂ => ?_
  have hTO₂ : IsPair h₂ TO a b := hs₂.extBut _ _ D.TOi1 (hs₁.extBut _ _ D.TOz hTO)
  refine wpAny_bind (wpAny_seqItems hTO₂ rfl ?_)
  refine wpAny_bind (wpAny_updateSeq_pair hTO₂ fun h₃ hTO₃ hs₃ => ?_)
  replace hTO₃ : IsPair h₃ TO x b := hTO₃
  refine wpAny_bind (wpAny_letGo (wpAny_pure ?_))

  refine wpAny_bind (wpAny_bind (wpAny_onRaise ?_))
  show wpAny _ _ (Builtin.SmallTypes.nextOrEnd (.ref i2)) _ _ _
  refine nextOrEnd_item (((h2.extBut hs₁.extBut D.i2z).extBut hs₂.extBut D.i12.symm).extBut hs₃.extBut D.TOi2.symm)
    (((hl2.extBut hs₁.extBut D.l2z).extBut hs₂.extBut D.l2i1).extBut hs₃.extBut D.l2TO) hy fun h₄ h2₄ hs₄ => ?_
  have hTO₄ : IsPair h₄ TO x b := hs₄.extBut _ _ D.TOi2 hTO₃
  refine wpAny_bind (wpAny_seqItems hTO₄ rfl ?_)
  refine wpAny_bind (wpAny_updateSeq_pair hTO₄ fun h₅ hTO₅ hs₅ => ?_)
  replace hTO₅ : IsPair h₅ TO x y := hTO₅
  refine wpAny_bind (wpAny_letGo (wpAny_pure (wpAny_pure ?_)))

  refine wpAny_bind (wpAny_seqItems hTO₅ rfl ?_)
  refine wpAny_bind (wpAny_newTuple ?_)
  have hsz : h₅.objs.size = s.heap.objs.size := by rw [hs₅.1, hs₄.1, hs₃.1, hs₂.1, hs₁.1]
  have hz₅ : IsZipS h₅ z TI TO .ellipsis := hs₅.extBut _ _ D.TOz.symm (hs₄.extBut _ _ D.i2z.symm (hs₃.extBut _ _ D.TOz.symm (hs₂.extBut _ _ D.i1z.symm hz₁)))
  have hk₅ : ∀ c o, c ≠ z → c ≠ TO → c ≠ i1 → c ≠ i2 → s.heap.get? c = some o → h₅.get? c = some o := fun c o c1 c2 c3 c4 e =>
    hs₅.extBut _ _ c2 (hs₄.extBut _ _ c4 (hs₃.extBut _ _ c2 (hs₂.extBut _ _ c3 (hs₁.extBut _ _ c1 e))))
  have h1₅ : h₅.IsTupleIter i1 l1 (k1 + 1) := ((h1₂.extBut hs₃.extBut D.TOi1.symm).extBut hs₄.extBut D.i12).extBut hs₅.extBut D.TOi1.symm
  have h2₅ : h₅.IsTupleIter i2 l2 (k2 + 1) := h2₄.extBut hs₅.extBut D.TOi2.symm
  have hzlt : z < h₅.objs.size := Heap.lt_size hz₅
  have hTOlt : TO < h₅.objs.size := Heap.lt_size hTO₅
  have hi1lt : i1 < h₅.objs.size := by obtain ⟨_, e, _⟩ := h1₅; exact Heap.lt_size e
  have hi2lt : i2 < h₅.objs.size := by obtain ⟨_, e, _⟩ := h2₅; exact Heap.lt_size e
  show wpAny _ _ (Builtin.SmallTypes.ownedTupleHandOut (.ref z) (.ref h₅.objs.size) >>= _) _ _ _
  refine wpAny_bind ?_
  unfold Builtin.SmallTypes.ownedTupleHandOut
  have hz₆ : IsZipS (h₅.push { cls := .type "tuple", data := .seq #[x, y] }) z TI TO .ellipsis := Heap.get?_push_of_some _ hz₅
  refine wpAny_bind (wpAny_setField_rec hz₆ (by simp) fun h₇ hz₇ hs₇ => ?_)
  replace hz₇ : IsZipS h₇ z TI TO (rawInt h₅.objs.size) := hz₇
  refine wpAny_setField_rec hz₇ (by simp) fun h₈ hz₈ hs₈ => ?_
  replace hz₈ : IsZipS h₈ z TI TO (rawInt h₅.objs.size) := hz₈
  have up : ∀ c o, c ≠ z → h₅.get? c = some o → h₈.get? c = some o := fun c o c1 e => hs₈.extBut _ _ c1 (hs₇.extBut _ _ c1 (Heap.get?_push_of_some _ e))
  have hT₈ : IsPair h₈ h₅.objs.size x y := hs₈.extBut _ _ (Nat.ne_of_gt hzlt) (hs₇.extBut _ _ (Nat.ne_of_gt hzlt) (Heap.get?_push_size _ rfl))
  have hz8 : h₈.objs.size = h₅.objs.size + 1 := by rw [hs₈.1, hs₇.1, Heap.size_push]
  rw [hsz] at hz₈ hT₈ hz8
  refine wpAny_pure ⟨_, rfl, ?_⟩
  show Q (.ref h₅.objs.size) _
  rw [hsz]
  exact hQ h₈ hz₈ (up _ _ D.TOz hTO₅) (h1₅.at fun o e => up _ o D.i1z e) (h2₅.at fun o e => up _ o D.i2z e) hT₈ hz8 fun c o c1 c2 c3 c4 e => up c o c1 (hk₅ c o c1 c2 c3 c4 e)
theorem zipS_next_end {z TI TO i1 i2 l1 l2 : Addr} {k1 k2 : Nat} {xs ys : Array Value} {a b : Value} {Q : Fin → Shared → Prop} (hh : A.handled = none) (D : ZipApart z TI TO i1 i2 l1 l2)
    (hz : IsZipS s.heap z TI TO .none) (hTI : IsPair s.heap TI (.ref i1) (.ref i2)) (hTO : IsPair s.heap TO a b)
    (h1 : s.heap.IsTupleIter i1 l1 k1) (h2 : s.heap.IsTupleIter i2 l2 k2) (hl1 : s.heap.IsTuple l1 xs) (hl2 : s.heap.IsTuple l2 ys) (hx : xs[k1]? = none) (hy : ys[k2]? = none)
    (hE : ∀ h' e, (∀ c o, c ≠ z → c ≠ TO → c ≠ i1 → c ≠ i2 → s.heap.get? c = some o → h'.get? c = some o) → (∃ o, h'.get? e = some o ∧ o.cls = .type "StopIteration") → E (.ref e) { s with heap := h' }) :
    wpAny (model prog w) A (Builtin.«zip.__next__» ⟨[.ref z], []⟩) Q E s := by
  show wpAny _ _ (field (.ref z) 2 >>= _) _ _ _
  refine wpAny_bind (wpAny_field hz rfl (x := .bool true) rfl ?_)
  show wpAny _ _ (field (.ref z) 3 >>= _) _ _ _
  refine wpAny_bind (wpAny_field hz rfl (x := .ref TI) rfl ?_)
  refine wpAny_bind (wpAny_seqItems hTI rfl ?_)
  show wpAny _ _ (Builtin.SmallTypes.ownedTupleIsFree (.ref z) >>= _) _ _ _
  refine wpAny_bind ?_
  unfold Builtin.SmallTypes.ownedTupleIsFree
  refine wpAny_bind (wpAny_field hz rfl (x := .none) rfl (wpAny_pure ?_))
  simp only [if_true]
  refine wpAny_bind (wpAny_rule ?_)
  refine wpAny_bind (wpAny_field hz rfl (x := .ref TO) rfl ?_)
  refine wpAny_bind (wpAny_setField_rec hz (by simp) fun h₁ hz₁ hs₁ => ?_)
  replace hz₁ : IsZipS h₁ z TI TO .ellipsis := hz₁
  refine wpAny_bind ?_
  simp only [List.zipIdx_cons, List.zipIdx_nil, List.forIn_cons, List.forIn_nil]
  refine wpAny_bind (wpAny_bind (wpAny_onRaise ?_))
  show wpAny _ _ (Builtin.SmallTypes.nextOrEnd (.ref i1)) _ _ _
  refine nextOrEnd_end hh (h1.extBut hs₁.extBut D.i1z) (hl1.extBut hs₁.extBut D.l1z) hx fun h₂ hs₂ => ?_
  have hz₂ : IsZipS h₂ z TI TO .ellipsis := hs₂ _ _ D.i1z.symm hz₁
  refine wpAny_bind (wpAny_setField_rec hz₂ (by simp) fun h₃ hz₃ hs₃ => ?_)
  refine wpAny_bind ?_
  show wpAny _ _ (forIn _ _ _ >>= _) _ _ _
  refine wpAny_bind ?_
  simp only [List.drop_succ_cons, List.drop_zero, List.zipIdx_cons, List.zipIdx_nil, List.forIn_cons, List.forIn_nil]
  have e2 := ((h2.extBut hs₁.extBut D.i2z))
  refine wpAny_bind (wpAny_bind (nextOrEnd_end hh (((h2.extBut hs₁.extBut D.i2z).at fun o e => hs₂ _ _ D.i12.symm e).at fun o e => hs₃.extBut _ _ D.i2z e)
    (IsTuple_at (IsTuple_at (hl2.extBut hs₁.extBut D.l2z) fun o e => hs₂ _ _ D.l2i1 e) fun o e => hs₃.extBut _ _ D.l2z e) hy fun h₄ hs₄ => ?_))
  rw [if_neg (by decide)]
  refine wpAny_pure (wpAny_pure (wpAny_bind (wpAny_rule ?_)))
  show wpAny _ _ (newExc (.type "StopIteration") [] >>= _) _ _ _
  refine wpAny_bind ?_
  simp only [newExc, newTuple]
  refine wpAny_bind (wpAny_newObj_type ?_ (by size_fits))
  refine wpAny_bind (m := firstArgMember _ _) (wpAny_of_eq (a := Value.none) (by first | rfl | (simp only [firstArgMember]; rfl)) ?_)
  refine wpAny_newObj_type ?_ (by size_fits)
  simp only [raiseNew]
  refine wpAny_bind (wpAny_handled ?_)
  rw [hh]
  refine wpAny_bind (wpAny_pure (wpAny_throw ?_))
  refine hE _ _ (fun c o c1 c2 c3 c4 x => Heap.get?_push_of_some _ (Heap.get?_push_of_some _ (hs₄ _ _ c4 (hs₃.extBut _ _ c1 (hs₂ _ _ c3 (hs₁.extBut _ _ c1 x)))))) ⟨_, Heap.get?_push_size _ rfl, rfl⟩
theorem pyNext_zipS_item {z TI TO i1 i2 l1 l2 : Addr} {k1 k2 : Nat} {xs ys : Array Value} {x y a b : Value} {Q : Option Value → Shared → Prop} (D : ZipApart z TI TO i1 i2 l1 l2)
    (hz : IsZipS s.heap z TI TO .none) (hTI : IsPair s.heap TI (.ref i1) (.ref i2)) (hTO : IsPair s.heap TO a b)
    (h1 : s.heap.IsTupleIter i1 l1 k1) (h2 : s.heap.IsTupleIter i2 l2 k2) (hl1 : s.heap.IsTuple l1 xs) (hl2 : s.heap.IsTuple l2 ys) (hx : xs[k1]? = some x) (hy : ys[k2]? = some y)
    (hQ : ∀ h', IsZipS h' z TI TO (rawInt s.heap.objs.size) → IsPair h' TO x y → h'.IsTupleIter i1 l1 (k1 + 1) → h'.IsTupleIter i2 l2 (k2 + 1) → IsPair h' s.heap.objs.size x y → h'.objs.size = s.heap.objs.size + 1 →
      (∀ c o, c ≠ z → c ≠ TO → c ≠ i1 → c ≠ i2 → s.heap.get? c = some o → h'.get? c = some o) → Q (some (.ref s.heap.objs.size)) { s with heap := h' }) :
    wpAny (model prog w) A (pyNext (.ref z)) Q E s := by
  have hT : s.TypeIs (.ref z) "zip" := ⟨_, hz, rfl⟩
  unfold pyNext
  exact wpAny_bind (wpAny_attempt (wpAny_callSpecial?_slot (name := Str.ofString "__next__") hT F.slot_zip_next
    (wpAny_call_entry F.slot_zip_next hT F.entry_zip_next
      (zipS_next_item D hz hTI hTO h1 h2 hl1 hl2 hx hy fun h' a1 a2 a3 a4 a5 a6 a7 => wpAny_pure (hQ h' a1 a2 a3 a4 a5 a6 a7)) (F.args_zip_next_1 _))))
theorem pyNext_zipS_end {z TI TO i1 i2 l1 l2 : Addr} {k1 k2 : Nat} {xs ys : Array Value} {a b : Value} {Q : Option Value → Shared → Prop} (hh : A.handled = none) (D : ZipApart z TI TO i1 i2 l1 l2)
    (hz : IsZipS s.heap z TI TO .none) (hTI : IsPair s.heap TI (.ref i1) (.ref i2)) (hTO : IsPair s.heap TO a b)
    (h1 : s.heap.IsTupleIter i1 l1 k1) (h2 : s.heap.IsTupleIter i2 l2 k2) (hl1 : s.heap.IsTuple l1 xs) (hl2 : s.heap.IsTuple l2 ys) (hx : xs[k1]? = none) (hy : ys[k2]? = none)
    (hQ : ∀ h', (∀ c o, c ≠ z → c ≠ TO → c ≠ i1 → c ≠ i2 → s.heap.get? c = some o → h'.get? c = some o) → Q none { s with heap := h' }) : wpAny (model prog w) A (pyNext (.ref z)) Q E s := by
  have hT : s.TypeIs (.ref z) "zip" := ⟨_, hz, rfl⟩
  unfold pyNext
  refine wpAny_bind (wpAny_attempt (wpAny_callSpecial?_slot (name := Str.ofString "__next__") hT F.slot_zip_next
    (wpAny_call_entry F.slot_zip_next hT F.entry_zip_next (zipS_next_end hh D hz hTI hTO h1 h2 hl1 hl2 hx hy fun h' e hk he => ?_) (F.args_zip_next_1 _))))
  obtain ⟨o, ho, hc⟩ := he
  refine wpAny_bind (wpAny_isInstance (T := "StopIteration") (b := true) ⟨o, ho, hc⟩ isSubtype_stop ?_)
  exact wpAny_pure (hQ _ hk)
theorem letGo_zipS {elts : List Expr} {x1 : Nat} {pos : Pos} {z TI TO T : Addr} {Q : Unit → Shared → Prop} (hz : IsZipS s.heap z TI TO (rawInt T))
    (hQ : ∀ h', IsZipS h' z TI TO .none → Heap.SameBut z s.heap h' → Q () { s with heap := h' }) :
    wpAny (model prog w) A (letOwnedTupleGo (.Tuple elts x1 pos) (.ref z) (.ref T)) Q E s := by
  unfold letOwnedTupleGo
  refine wpAny_bind (wpAny_load hz ?_)
  show wpAny _ _ (if (["enumerate", "zip", "dict_itemiterator", "dict_reverseitemiterator", "odict_iterator", "itertools.zip_longest", "itertools.pairwise"].contains "zip" &&
      (#[rawInt T, .bool false, .bool true, .ref TI, .ref TO] : Array Value)[0]? == some (rawInt T)) = true then _ else _) Q E s
  rw [if_pos (by simp)]
  refine wpAny_bind (wpAny_rule ?_)
  show wpAny _ _ (setField (.ref z) 0 .none) Q E s
  exact wpAny_setField_rec hz (by simp) fun h' hz' hs' => hQ h' hz' hs'
theorem pyIter_zipS {z TI TO : Addr} {f0 : Value} {Q : Value → Shared → Prop} (hz : IsZipS s.heap z TI TO f0) (h : Q (.ref z) s) : wpAny (model prog w) A (pyIter (.ref z)) Q E s := by
  have hT : s.TypeIs (.ref z) "zip" := ⟨_, hz, rfl⟩
  refine wpAny_pyIter_slot hT F.slot_zip_iter (wpAny_call_entry F.slot_zip_iter hT F.entry_zip_iter ?_ (F.args_zip_iter_1 _))
  show wpAny _ _ (ret (.ref z)) _ _ s
  exact wpAny_pure ⟨_, rfl, "zip", _, hT, F.slot_zip_next.lookup, h⟩
end
abbrev zipSH5 (h : Heap) (l1 l2 : Addr) : Heap := (RZ.zipTH4 h l1 l2).push { cls := .type "zip", data := .fields #[.none, .bool false, .bool true, .ref (RZ.zipTH2 h l1 l2).objs.size, .ref (RZ.zipTH3 h l1 l2).objs.size] }
theorem typeCall_zipS (a b c : Value) : checkTypeCall "zip" ⟨[a, b], [(Str.ofString "strict", c)]⟩ = pure () := by kernel_rfl
theorem newCall_zipS (a b c : Value) : checkBuiltinCall "zip.__new__" ⟨[.type "zip", a, b], [(Str.ofString "strict", c)]⟩ = pure () := by kernel_rfl
theorem args_initS (obj a b c : Value) : argsOk "object.__init__" ⟨[obj, a, b], [(Str.ofString "strict", c)]⟩ := by unfold argsOk; kernel_rfl
theorem meets_zipS_new (l1 l2 : Addr) (xs ys : Array Value) :
    Meets (Builtin.«zip.__new__» ⟨[.type "zip", .ref l1, .ref l2], [(Str.ofString "strict", .bool true)]⟩) (fun _ R s => s.heap.IsTuple l1 xs ∧ s.heap.IsTuple l2 ys ∧
      R (.ok (.ret (.ref (RZ.zipTH4 s.heap l1 l2).objs.size))) { s with heap := zipSH5 s.heap l1 l2 }) :=
  .of_wp fun prog w A R s h => by
    obtain ⟨hp, g, d, tk, os⟩ := s; obtain ⟨hl1, hl2, h⟩ := h
    have hsub := sub_zip
    have hL1 : Heap.IsTuple (Shared.heap ⟨hp, g, d, tk, os⟩) l1 xs := hl1
    have hL2 : Heap.IsTuple (Shared.heap ⟨hp.push { cls := .type "tuple_iterator", data := .fields #[.ref l1, .int 0 0] }, g, d, tk, os⟩) l2 ys := Heap.IsTuple.push hl2 _
    have e2 : (Str.ofString "strict" != ("strict" : Str)) = false := by decide +kernel
    wp_walk using wpAny_pyIter_tuple hL1, wpAny_pyIter_tuple hL2
    exact ⟨_, rfl, h⟩
section
variable {prog : Program} {w : World} {A : Around} {E : Value → Shared → Prop} {s : Shared}
theorem call_zipS {l1 l2 : Addr} {xs ys : Array Value} {Q : Value → Shared → Prop} (hl1 : s.heap.IsTuple l1 xs) (hl2 : s.heap.IsTuple l2 ys)
    (h : ∀ h', IsZipS h' (s.heap.objs.size + 4) (s.heap.objs.size + 2) (s.heap.objs.size + 3) .none → IsPair h' (s.heap.objs.size + 2) (.ref s.heap.objs.size) (.ref (s.heap.objs.size + 1)) →
      IsPair h' (s.heap.objs.size + 3) .none .none → h'.IsTupleIter s.heap.objs.size l1 0 → h'.IsTupleIter (s.heap.objs.size + 1) l2 0 → h'.objs.size = s.heap.objs.size + 5 →
      (∀ c o, s.heap.get? c = some o → h'.get? c = some o) → Q (.ref (s.heap.objs.size + 4)) { s with heap := h' }) :
    wpAny (model prog w) A (call (.type "zip") [.ref l1, .ref l2] [(Str.ofString "strict", .bool true)]) Q E s := by
  refine callType_newKw F.called_zip (by decide) (typeCall_zipS _ _ _) (newCall_zipS _ _ _) (fun obj => args_initS obj _ _ _) F.entry_zip_new
    (meets_zipS_new l1 l2 xs ys) ⟨hl1, hl2, ?_⟩
  have z1 : (RZ.zipTH1 s.heap l1).objs.size = s.heap.objs.size + 1 := Heap.size_push ..
  have z2 : (RZ.zipTH2 s.heap l1 l2).objs.size = s.heap.objs.size + 2 := by rw [Heap.size_push, z1]
  have z3 : (RZ.zipTH3 s.heap l1 l2).objs.size = s.heap.objs.size + 3 := by rw [Heap.size_push, z2]
  have z4 : (RZ.zipTH4 s.heap l1 l2).objs.size = s.heap.objs.size + 4 := by rw [Heap.size_push, z3]
  have z5 : (zipSH5 s.heap l1 l2).objs.size = s.heap.objs.size + 5 := by rw [Heap.size_push, z4]
  have g5 : (zipSH5 s.heap l1 l2).get? (RZ.zipTH4 s.heap l1 l2).objs.size = some _ := Heap.get?_push_size _ rfl
  have g4 : (zipSH5 s.heap l1 l2).get? (RZ.zipTH3 s.heap l1 l2).objs.size = some _ := Heap.get?_push_of_some _ (Heap.get?_push_size _ rfl)
  have g3 : (zipSH5 s.heap l1 l2).get? (RZ.zipTH2 s.heap l1 l2).objs.size = some _ := Heap.get?_push_of_some _ (Heap.get?_push_of_some _ (Heap.get?_push_size _ rfl))
  have g2 : (zipSH5 s.heap l1 l2).get? (RZ.zipTH1 s.heap l1).objs.size = some _ := Heap.get?_push_of_some _ (Heap.get?_push_of_some _ (Heap.get?_push_of_some _ (Heap.get?_push_size _ rfl)))
  have g1 : (zipSH5 s.heap l1 l2).get? s.heap.objs.size = some _ := Heap.get?_push_of_some _ (Heap.get?_push_of_some _ (Heap.get?_push_of_some _ (Heap.get?_push_of_some _ (Heap.get?_push_size _ rfl))))
  show _ ∧ _
  rw [z2, z3, z4] at g5
  rw [z1, z2] at g3
  rw [z3] at g4
  rw [z1] at g2
  rw [z4]
  exact ⟨⟨_, g5, rfl⟩, h _ g5 g3 g4 ⟨_, g1, rfl, rfl⟩ ⟨_, g2, rfl, rfl⟩ z5 fun c o x =>
    Heap.get?_push_of_some _ (Heap.get?_push_of_some _ (Heap.get?_push_of_some _ (Heap.get?_push_of_some _ (Heap.get?_push_of_some _ x))))⟩
end
/-- two tuples of one length -/
def ItzS (K : PySem.W.Frag) (a b : Addr) : It :=
  ⟨(RZ.ItzT K a b).go, (RZ.ItzT K a b).yld, fun i H => ∃ xs ys : List V, SqT K H a xs ∧ SqT K H b ys ∧ xs.length ≤ i ∧ ys.length ≤ i⟩
theorem turn_zipS {P : Program} {w : World} {K : PySem.W.Frag} {elts : List Expr} {kk : Nat} {tpos : Pos} {a b z TI TO i1 i2 : Addr} (D : ZipApart z TI TO i1 i2 a b) :
    Turn P w K (.Tuple elts kk tpos) (ItzS K a b) [z, TI, TO, i1, i2] z (fun i h => IsZipS h z TI TO .none ∧ IsPair h TI (.ref i1) (.ref i2) ∧ (∃ x y, IsPair h TO x y) ∧ h.IsTupleIter i1 a i ∧ h.IsTupleIter i2 b i) where
  mem := by simp
  obj := fun i h st c hc => by
    obtain ⟨hz, hTI, ⟨x, y, hTO⟩, ⟨o1, e1, _, d1⟩, ⟨o2, e2, _, d2⟩⟩ := st
    have e' : c = z ∨ c = TI ∨ c = TO ∨ c = i1 ∨ c = i2 := by simpa using hc
    rcases e' with q | q | q | q | q
    · rw [q]; exact ⟨_, hz, fun v q => nomatch q⟩
    · rw [q]; exact ⟨_, hTI, fun v q => nomatch q⟩
    · rw [q]; exact ⟨_, hTO, fun v q => nomatch q⟩
    · rw [q]; exact ⟨o1, e1, fun v q => by rw [d1] at q; cases q⟩
    · rw [q]; exact ⟨o2, e2, fun v q => by rw [d2] at q; cases q⟩
  keep := fun i h h' st k => by
    obtain ⟨hz, hTI, ⟨x, y, hTO⟩, h1, h2⟩ := st
    exact ⟨k z (by simp) _ hz, k TI (by simp) _ hTI, ⟨x, y, k TO (by simp) _ hTO⟩, h1.at fun o q => k i1 (by simp) o q, h2.at fun o q => k i2 (by simp) o q⟩
  item := by
    intro X hP hw hK hc i pins s σ H E I hf st hg
    subst hP hw hK
    obtain ⟨hz, hTI, ⟨x0, y0, hTO⟩, h1, h2⟩ := st
    obtain ⟨xs, ys, x, y, hqx, hqy, hx, hy⟩ := hg
    obtain ⟨its, rv, p, _⟩ := I.tuple hqx
    obtain ⟨its2, rv2, p2, _⟩ := I.tuple hqy
    obtain ⟨u, hu, ru⟩ := rv.get hx
    obtain ⟨u2, hu2, ru2⟩ := rv2.get hy
    have hzl : z < s.heap.objs.size := Heap.lt_size hz
    refine pyNext_zipS_item D hz hTI hTO h1 h2 p p2 (x := u) (y := u2) (by simpa using hu) (by simpa using hu2) fun h' z' TO' h1' h2' hT hsz hk => ?_
    refine ⟨_, rfl, letGo_zipS (s := { s with heap := h' }) z' fun h'' z'' sb => ?_⟩
    have hT2 : h''.get? s.heap.objs.size = some { cls := .type "tuple", data := .seq #[u, u2] } := (sb.2 _ (Nat.ne_of_gt hzl)).trans hT
    have new : ObjOk X.prog X.w (upd H s.heap.objs.size (.tup [x, y])) h'' s.heap.objs.size (.tup [x, y]) :=
      ⟨by show 2 ≤ sizeLine; decide, [u, u2], .cons ru (.cons ru2 .nil), ⟨_, hT2, rfl, _, rfl⟩⟩
    have I1 : Inv X pins σ (upd H s.heap.objs.size (.tup [x, y])) { s with heap := h'' } :=
      I.turnedNew (t' := s.toks) (ch := [z, TI, TO, i1, i2]) (fun c o hb q => (sb.2 c (fun q' => hb (by simp [q']))).trans (hk c o (fun q' => hb (by simp [q'])) (fun q' => hb (by simp [q'])) (fun q' => hb (by simp [q'])) (fun q' => hb (by simp [q'])) q)) hf (Nat.le_refl _) new
    refine ⟨.ref s.heap.objs.size, _, I1, rfl, ⟨_, x, y, rfl, I.hok.fresh (Nat.le_refl _), rfl, fun l hl => by rw [I.tuple_inj hl hqx]; exact hx, fun l hl => by rw [I.tuple_inj hl hqy]; exact hy⟩, ⟨z'', ?_, ⟨u, u2, ?_⟩, ?_, ?_⟩, fun c hcm => ?_⟩
    · exact (sb.2 _ D.TIz).trans (hk _ _ D.TIz D.TITO D.TIi1 D.TIi2 hTI)
    · exact (sb.2 _ D.TOz).trans TO'
    · exact h1'.at fun o q => (sb.2 _ D.i1z).trans q
    · exact h2'.at fun o q => (sb.2 _ D.i2z).trans q
    · have hlt : c < s.heap.objs.size := by
        have e' : c = z ∨ c = TI ∨ c = TO ∨ c = i1 ∨ c = i2 := by simpa using hcm
        rcases e' with q | q | q | q | q
        · rw [q]; exact hzl
        · rw [q]; exact Heap.lt_size hTI
        · rw [q]; exact Heap.lt_size hTO
        · rw [q]; obtain ⟨_, e1, _⟩ := h1; exact Heap.lt_size e1
        · rw [q]; obtain ⟨_, e2, _⟩ := h2; exact Heap.lt_size e2
      rw [upd_ne (Nat.ne_of_lt hlt)]
      exact (hf c hcm).1
  done := by
    intro X hP hw hK hc i pins s σ H E I hf st hg
    subst hP hw hK
    obtain ⟨hz, hTI, ⟨x0, y0, hTO⟩, h1, h2⟩ := st
    obtain ⟨xs, ys, hqx, hqy, hend, hend2⟩ := hg
    obtain ⟨its, rv, p, _⟩ := I.tuple hqx
    obtain ⟨its2, rv2, p2, _⟩ := I.tuple hqy
    have l1 := rv.length
    have l2 := rv2.length
    have he1 : its.toArray[i]? = none := by simp; omega
    have he2 : its2.toArray[i]? = none := by simp; omega
    exact pyNext_zipS_end (I.ok.hd hc) D hz hTI hTO h1 h2 p p2 he1 he2 fun h' hk => ⟨rfl, I.turnedL (t' := s.toks) (ch := [z, TI, TO, i1, i2]) (fun c o hb q =>
      hk c o (fun q' => hb (by simp [q'])) (fun q' => hb (by simp [q'])) (fun q' => hb (by simp [q'])) (fun q' => hb (by simp [q'])) q) hf⟩
  self := fun A i s Q E st h => pyIter_zipS st.1 h


theorem pi_zipS {X : Cx} {e e2 : Expr} {ta : TA} {p pos tpos kp kpos : Pos} {elts : List Expr} {kk j : Nat} (hg : Gl X "zip") (hm : X.mg "zip" = none) (ha : PA X [e, e2] ta)
    (hs : starEach [e, e2] X.env = (false, eval e X.env) :: starEach [e2] X.env := by rfl) (hpl : ((backTo pos (starEach [e, e2] X.env)).any (·.1) || (backToKw pos (keywordEach [⟨some (Str.ofString "strict"), .Constant (.bool true) j kp, kpos⟩] X.env)).any (·.1.isNone)) = false := by rfl) :
    PI X (.Tuple elts kk tpos) (.Call (.Name "zip" p) [e, e2] [⟨some (Str.ofString "strict"), .Constant (.bool true) j kp, kpos⟩] pos)
      (fun σ H R => ta σ H fun vs H1 => ∃ a b xs ys, vs = [.ref a, .ref b] ∧ SqT X.K H1 a xs ∧ SqT X.K H1 b ys ∧ R (ItzS X.K a b) H1) := by
  refine ⟨fun pins s σ H R I h => ?_⟩
  refine wpAny_Call_Name_kw (ld_blt I hg hm PyProof.Rows.boot_zip (callWith_typeKw rfl (thn (ha.run pos pins s σ H _ I h) fun us s1 ⟨vs, H1, I1, r1, q1⟩ => ?_) hpl hs))
  · obtain ⟨a, b, xs, ys, ex, hqx, hqy, q⟩ := q1
    subst ex
    cases r1 with
    | cons r rr =>
      cases rr with
      | cons r' rr =>
        cases rr
        cases r
        cases r'
        refine thn ((pk_cons (X := X) (kws := []) (pe_bl (X := X) (b := true) (j := j) (pos := kp)) pk_nil).run pos pins s1 σ H1 (fun vs H2 => vs = [V.bl true] ∧ H2 = H1) I1 ⟨rfl, rfl⟩) fun ks s2 ⟨zs, H2, I2, r2, e2, eH⟩ => ?_
        subst e2 eH
        cases r2 with
        | cons rk rr =>
          cases rr
          cases rk
          have fresh5 : ∀ c, c ∈ [s2.heap.objs.size + 4, s2.heap.objs.size + 2, s2.heap.objs.size + 3, s2.heap.objs.size, s2.heap.objs.size + 1] → FpOk X pins H2 c := fun c hcm => by
            have e' : c = s2.heap.objs.size + 4 ∨ c = s2.heap.objs.size + 2 ∨ c = s2.heap.objs.size + 3 ∨ c = s2.heap.objs.size ∨ c = s2.heap.objs.size + 1 := by simpa using hcm
            have hle : s2.heap.objs.size ≤ c := by
              rcases e' with z | z | z | z | z
              · rw [z]; exact Nat.le_add_right _ _
              · rw [z]; exact Nat.le_add_right _ _
              · rw [z]; exact Nat.le_add_right _ _
              · rw [z]; exact Nat.le_refl _
              · rw [z]; exact Nat.le_add_right _ _
            exact I2.fpOk hle (I2.hok.fresh hle)
          obtain ⟨its, rv, p1, _⟩ := I2.tuple hqx
          obtain ⟨its2, rv2, p2, _⟩ := I2.tuple hqy
          obtain ⟨o1, ho1, _⟩ := id p1
          obtain ⟨o2, ho2, _⟩ := id p2
          refine call_zipS (show s2.heap.IsTuple a its.toArray from p1) (show s2.heap.IsTuple b its2.toArray from p2) fun h' hz hTI hTO h1 h2 hsz hk => pyIter_zipS hz ?_
          have I3 : Inv X pins σ H2 { s2 with heap := h' } := I2.kept (t' := s2.toks) hk
          exact ⟨s2.heap.objs.size + 4, [s2.heap.objs.size + 4, s2.heap.objs.size + 2, s2.heap.objs.size + 3, s2.heap.objs.size, s2.heap.objs.size + 1], _, _, H2, rfl, I3, turn_zipS (PySem.W.ktu_apart s2.heap.objs.size a b (Heap.lt_size ho1) (Heap.lt_size ho2)), ⟨hz, hTI, ⟨_, _, hTO⟩, h1, h2⟩, fresh5, q⟩
def mZipS (fs : MS → Out (List RV)) : MS → Out MI := fun s => (fs s).bind fun rs s1 => match rs with
  | [.v (.tup xs), .v (.tup ys)] => if xs.length = ys.length then .ok ⟨List.zipWith (fun x y => .tup [x, y]) xs ys, fun _ => True⟩ s1 else .bad
  | _ => .bad
section
variable {X : Cx} {R : RC} {W : WX} {pos p tpos kp kpos : Pos} {e e2 : Expr} {elts : List Expr} {kk j : Nat}
theorem ji_zipS {fs : MS → Out (List RV)} (hm : X.mg "zip" = none) (ha : JA X R W [e, e2] fs) (hg : Gl X "zip" := by rfl) (hs : starEach [e, e2] X.env = (false, eval e X.env) :: starEach [e2] X.env := by rfl) (hpl : ((backTo pos (starEach [e, e2] X.env)).any (·.1) || (backToKw pos (keywordEach [⟨some (Str.ofString "strict"), .Constant (.bool true) j kp, kpos⟩] X.env)).any (·.1.isNone)) = false := by rfl) :
    JI X R W (.Tuple elts kk tpos) (.Call (.Name "zip" p) [e, e2] [⟨some (Str.ofString "strict"), .Constant (.bool true) j kp, kpos⟩] pos) (mZipS fs) := fun hK F =>
  PI.imp (pi_zipS hg hm (ha hK F) hs hpl) fun σ H Rr h => (first (M := rlR) h).mono fun vs H1 ⟨G, rs, s1, G1, w, rr, o⟩ => by
    have rr : RRs R σ H G1 H1 rs vs := rr
    split at o
    · rename_i xs ys _
      obtain ⟨v, t, rfl, r1, v2, t2, rfl, r2, e⟩ := rr
      have e : t2 = [] := e
      subst e
      split at o
      · rename_i hl
        have r1 : VR R.K G1 H1 (.tup xs) v := r1
        have r2 : VR R.K G1 H1 (.tup ys) v2 := r2
        obtain ⟨a, us, rfl, k1, q1⟩ := r1.tup
        obtain ⟨b, ws, rfl, k2, q2⟩ := r2.tup
        refine ⟨a, b, us, ws, rfl, by rw [← hK]; exact k1, by rw [← hK]; exact k2, o _ _ _ w.rel w.evo ?_⟩
        intro F2 G2 H2 s2 σ2 rel ev ck
        have r1' : VR R.K G2 H2 (.tup xs) (.ref a) := VR.mono ev.mo _ _ r1
        have r2' : VR R.K G2 H2 (.tup ys) (.ref b) := VR.mono ev.mo _ _ r2
        obtain ⟨a', us2, z1, l1, p1⟩ := r1'.tup
        obtain ⟨b', ws2, z2, l2, p2⟩ := r2'.tup
        cases z1
        cases z2
        rw [hK] at l1 l2
        have hl2 : (List.zipWith (fun x y => MV.tup [x, y]) xs ys).length = xs.length := by simp; omega
        refine ⟨fun i hi => ?_, ?_, fun i x v H3 hx y => ?_⟩
        · have hi : i < xs.length := by rw [← hl2]; exact hi
          obtain ⟨x, hx, _⟩ := p1.get (List.getElem?_eq_getElem (by omega : i < xs.length))
          obtain ⟨y, hy, _⟩ := p2.get (List.getElem?_eq_getElem (by omega : i < ys.length))
          exact ⟨us2, ws2, x, y, l1, l2, hx, hy⟩
        · show (ItzS X.K a b).stop (List.zipWith (fun x y => MV.tup [x, y]) xs ys).length H2
          rw [hl2]
          exact ⟨us2, ws2, l1, l2, by rw [← p1.length]; omega, by rw [← p2.length]; omega⟩
        · obtain ⟨T, x1, y1, rfl, hT, rfl, f1, f2⟩ := y
          have hx : (List.zipWith (fun x y => MV.tup [x, y]) xs ys)[i]? = some x := hx
          rw [List.getElem?_zipWith] at hx
          split at hx
          · rename_i x0 y0 g1 g2
            cases hx
            obtain ⟨u, hu, vu⟩ := p1.get g1
            obtain ⟨u', hu', vu'⟩ := p2.get g2
            rw [f1 us2 l1] at hu; cases hu
            rw [f2 ws2 l2] at hu'; cases hu'
            exact .inr ⟨T, _, _, rfl, rfl, hT, rfl, VRs.cons vu (VRs.cons vu' (VRs.nil (K := R.K)))⟩
          · cases hx
      · exact o.elim
    · exact o.elim
end
end Mi
set_option Elab.async false
set_option linter.all false
set_option maxRecDepth 100000
set_option maxHeartbeats 4000000
namespace Mi
open PySem PySem.Spec PyProof.Rows L2
/-! a dict is walked: locked meanwhile -/
theorem Evo.updLate {P : Nat → Prop} {G0 G : Gh} {H0 H : Hp} {a : Addr} {o : HO} (e : Evo P G0 H0 G H) (g : G a ≠ some .frz) (g0 : G a ≠ none) (nf : ∀ x u, H0 a ≠ some (.frz x u)) : Evo P G0 H0 G (upd H a o) := by
  refine ⟨fun b u hb gb => ?_, fun b gb => ?_, e.ob, e.fl, fun b u hb => ?_⟩
  · obtain ⟨h1, g1⟩ := e.un b u hb gb
    exact ⟨by rw [upd_ne fun z => g0 (by rw [← z]; exact g1)]; exact h1, g1⟩
  · obtain ⟨g1, h1⟩ := e.fz b gb
    exact ⟨g1, by rw [upd_ne fun z => g (by rw [← z]; exact g1)]; exact h1⟩
  · by_cases z : b = a
    · subst z; exact ⟨_, upd_same, fun x w q => absurd (q ▸ hb) (nf x w)⟩
    · obtain ⟨u', h1, k1⟩ := e.tk b u hb
      exact ⟨u', by rw [upd_ne z]; exact h1, k1⟩
section
variable {R : RC} {F : FI} {σ : L2.St} {G : Gh} {H : Hp} {s : MS} {Hs : Hp}
/-- a write at a place -/
theorem put_okU {r : RV} {v : V} {c c' : C} (rel : Rel R F G s σ H) (rr : RR R σ Hs G H r v) (e : place s r = some c) (nf0 : ∀ a, v = .ref a → ∀ x u, F.H0 a ≠ some (.frz x u)) : ∃ a, v = .ref a ∧ CR R.K G H c a ∧ (∃ q, G a = some q ∧ q ≠ .frz) ∧
    ∀ ho, CR R.K G (upd H a ho) c' a → Rel R F G (putC s r c') σ (upd H a ho) := by
  cases r with
  | own c => cases e
  | loc i =>
    simp only [place] at e
    split at e
    · rename_i c0 hc
      cases e
      obtain ⟨u, q, a, ev, g, cr⟩ := rel.env i _ hc
      have rr' : σ[i]? = some (some v) := rr
      rw [rr'] at q; cases q
      subst ev
      refine ⟨a, rfl, cr, ⟨_, g, by simp⟩, fun ho new => ?_⟩
      have m : Mo G H G (upd H a ho) := Mo.upd (by rw [g]; simp)
      refine ⟨rel.hp.upd (.inr ⟨i, g⟩), by simpa [putC] using rel.len, fun j sv ej => ?_, rel.since.updLate (by rw [g]; simp) (by rw [g]; simp) (nf0 _ rfl), rel.base, rel.le, rel.ent⟩
      have hl : i < s.env.length := by rw [rel.len]; exact (List.getElem?_eq_some_iff.mp rr').1
      by_cases z : j = i
      · subst z
        simp only [putC, List.getElem?_set_self hl] at ej
        cases ej
        exact ⟨_, rr', a, rfl, g, new⟩
      · simp only [putC, List.getElem?_set_ne (Ne.symm z)] at ej
        obtain ⟨w, q, k⟩ := rel.env j sv ej
        refine ⟨w, q, ?_⟩
        cases sv with
        | v x => exact VR.mono m x w k
        | own c =>
          obtain ⟨b, q2, gb, k⟩ := k
          exact ⟨b, q2, gb, k.mono m (upd_ne fun y => z (by rw [y, g] at gb; cases gb; rfl))⟩
    · cases e
  | fld n f =>
    simp only [place] at e
    split at e
    · rename_i cl fs hn
      split at e
      · rename_i c0 hc
        cases e
        obtain ⟨b, ev, gb⟩ := rr
        obtain ⟨a, ga, dx, hfs, ha, hlen, hf, hno, hln, hnd, hks⟩ := rel.hp.objs n _ hn
        obtain ⟨a', cl2, fs2, dx', hfs', nm, ga', hn2, ha', hnm, hl, _⟩ := rel.hp.fldOk b n f gb
        have ea := rel.hp.uniq _ _ _ ga ga'
        subst ea
        rw [hn] at hn2
        cases hn2
        rw [ha] at ha'
        cases ha'
        have fs1 := hf f _ hnm
        rw [hc, hl] at fs1
        obtain ⟨b', hb', gb', cr⟩ := fs1
        cases hb'
        subst ev
        refine ⟨b, rfl, cr, ⟨_, gb, by simp⟩, fun ho new => ?_⟩
        have m : Mo G H G (upd H b ho) := Mo.upd (by rw [gb]; simp)
        have nab : a ≠ b := fun z => by rw [z, gb] at ga; cases ga
        have flt : f < fs.length := (List.getElem?_eq_some_iff.mp hc).1
        refine ⟨?_, rel.len, ?_, rel.since.updLate (by rw [gb]; simp) (by rw [gb]; simp) (nf0 _ rfl), rel.base, ?_, rel.ent⟩
        · show HRel R G (putFld s.hp n f _) _
          unfold putFld
          rw [hn]
          refine rel.hp.put ga (.inr ⟨f, gb⟩) ⟨dx, hfs, (upd_ne nab).trans ha, by simpa using hlen, fun g nm' eg => ?_, hno, hln, hnd, hks⟩ fun c g gc => ?_
          · by_cases z : g = f
            · subst z
              rw [List.getElem?_set_self flt]
              rw [hnm] at eg; cases eg
              exact ⟨b, hl, gb, new⟩
            · rw [List.getElem?_set_ne (Ne.symm z)]
              exact (hf g nm' eg).mono m fun d gd => ⟨gd, upd_ne fun y => z (by rw [y, gb] at gd; cases gd; rfl)⟩
          · obtain ⟨a3, cl3, fs3, dx3, hfs3, nm3, ga3, hn3, ha3, q3⟩ := rel.hp.fldOk c n g gc
            have ea3 := rel.hp.uniq _ _ _ ga ga3
            subst ea3
            rw [hn] at hn3; cases hn3
            rw [ha] at ha3; cases ha3
            obtain ⟨q31, q32, C, q33⟩ := q3
            refine ⟨_, _, dx, hfs, nm3, rfl, (upd_ne nab).trans ha, q31, q32, ?_⟩
            by_cases z : g = f
            · subst z; exact ⟨_, List.getElem?_set_self flt⟩
            · exact ⟨C, by rw [List.getElem?_set_ne (Ne.symm z)]; exact q33⟩
        · exact env_keep m rel.env fun d i gd => ⟨gd, upd_ne fun y => by rw [y, gb] at gd; cases gd⟩
        · show F.base ≤ (putFld s.hp n f _).length
          unfold putFld
          rw [hn]
          simpa using rel.le
      · cases e
    · cases e
  | v x =>
    cases x with
    | ref n =>
      simp only [place] at e
      split at e
      · rename_i c0 hc
        cases e
        have rr' : VR R.K G H (.ref n) v := rr
        unfold VR at rr'
        obtain ⟨a, q, g⟩ := rr'
        obtain ⟨a', ga', cr⟩ := rel.hp.objs n _ hc
        have ea := rel.hp.uniq _ _ _ g ga'
        subst ea
        subst q
        refine ⟨a, rfl, cr, ⟨_, g, by simp⟩, fun ho new => ?_⟩
        have m : Mo G H G (upd H a ho) := Mo.upd (by rw [g]; simp)
        refine ⟨rel.hp.put g (.inl rfl) new fun c f gc => ?_, rel.len, env_keep m rel.env fun d i gd => ⟨gd, upd_ne fun y => by rw [y, g] at gd; cases gd⟩, rel.since.updLate (by rw [g]; simp) (by rw [g]; simp) (nf0 _ rfl), rel.base, by simpa [putC] using rel.le, rel.ent⟩
        obtain ⟨a3, cl3, fs3, dx3, hfs3, nm3, ga3, hn3, q3⟩ := rel.hp.fldOk c n f gc
        rw [hc] at hn3; cases hn3
      · cases e
    | non => cases e
    | bl b => cases e
    | int i => cases e
    | str s => cases e
    | tup xs => cases e
    | lst xs => cases e
    | dct a b => cases e
theorem place_rr {r : RV} {c : C} (rel : Rel R F G s σ H) (e : place s r = some c) : ∃ v, RR R σ Hs G H r v := by
  cases r with
  | own c => cases e
  | loc i =>
    simp only [place] at e
    split at e
    · rename_i c0 hc
      obtain ⟨u, q, _⟩ := rel.env i _ hc
      exact ⟨u, q⟩
    · cases e
  | fld n f =>
    simp only [place] at e
    split at e
    · rename_i cl fs hn
      split at e
      · rename_i c0 hc
        obtain ⟨a, ga, dx, hfs, ha, hlen, hf, _⟩ := rel.hp.objs n _ hn
        have hl : f < fs.length := (List.getElem?_eq_some_iff.mp hc).1
        have hl2 : f < (R.flds cl).length := by rw [← hlen]; exact hl
        have k := hf f _ (List.getElem?_eq_getElem hl2)
        rw [hc] at k
        obtain ⟨b, _, gb, _⟩ := k
        exact ⟨.ref b, b, rfl, gb⟩
      · cases e
    · cases e
  | v x =>
    cases x with
    | ref n =>
      simp only [place] at e
      split at e
      · rename_i c0 hc
        obtain ⟨a, ga, _⟩ := rel.hp.objs n _ hc
        refine ⟨.ref a, ?_⟩
        show VR R.K G H (.ref n) (.ref a)
        unfold VR
        exact ⟨a, rfl, ga⟩
      · cases e
    | non => cases e
    | bl b => cases e
    | int i => cases e
    | str s => cases e
    | tup xs => cases e
    | lst xs => cases e
    | dct a b => cases e
/-- a place keeps its address -/
theorem place_later {r : RV} {c : C} {v : V} {G2 : Gh} {H2 Hs2 : Hp} (e : place s r = some c) (rr : RR R σ Hs G H r v) (m : Mo G H G2 H2) (fl : ∀ a n f, G a = some (.fld n f) → G2 a = some (.fld n f)) : RR R σ Hs2 G2 H2 r v := by
  cases r with
  | own c => cases e
  | loc i => exact rr
  | fld n f => obtain ⟨b, q, g⟩ := rr; exact ⟨b, q, fl b n f g⟩
  | v x => exact VR.mono m x v rr
end
noncomputable def mLk (pk fe : ME) : ME := fun s => match pk s with
  | .ok r _ => match place s r with
    | some (.dict kvs) => match fe (putC s r (.lock kvs)) with
      | .ok v s2 => match place s2 r with
        | some (.lock _) => .ok v (putC s2 r (.dict kvs))
        | _ => .bad
      | _ => .bad
    | _ => .bad
  | _ => .bad
section
variable {X : Cx} {R : RC} {W : WX} {e : Expr} {pk fe : ME}
theorem je_lk (h : JE X R W e fe) : JE X R W e (mLk pk fe) := fun hK F => PE.imp (pe_lock (h hK F)) fun σ H Q ⟨G, s, rel, o⟩ => by
  unfold mLk at o
  split at o
  · rename_i r s0 _
    split at o
    · rename_i kvs hp
      obtain ⟨v0, rr0⟩ := place_rr (Hs := H) rel hp
      obtain ⟨d, rfl, cr, ⟨q, gq, nf⟩, put⟩ := put_ok (c' := .lock kvs) rel rr0 hp
      obtain ⟨ho, hd, dk, rfl, hk, hv⟩ := cr
      have gn : G d ≠ some .frz := fun z => nf (by rw [z] at gq; exact (Option.some.inj gq).symm)
      have g0 : G d ≠ none := by rw [gq]; simp
      refine ⟨d, .dK dk, hd, trivial, fun od => ?_⟩
      have mu : Mo G H G (upd H d (.frz od (.dK dk))) := Mo.upd gn
      have rel1 := put (.frz od (.dK dk)) ⟨od, .dK dk, upd_same, dk, rfl, hk, VRs.mono mu _ _ hv⟩
      refine ⟨G, putC s r (.lock kvs), rel1, ?_⟩
      split at o
      · rename_i v s2 hfe
        rw [hfe]
        intro G' H' v' rel2 ev rr2
        have hfz : H' d = some (.frz od (.dK dk)) := by
          obtain ⟨o', e1, e2⟩ := ev.tk d _ upd_same
          rw [e2 _ _ rfl] at e1
          exact e1
        refine ⟨hfz, ?_⟩
        split at o
        · rename_i kvs2 hp2
          have rrd : RR R σ H G' H' r (.ref d) := place_later (Hs2 := H) hp (place_later (Hs2 := H) hp rr0 mu fun _ _ _ z => z) ev.mo fun a n f z => ev.fl a n f trivial z
          have nf0 : ∀ a, V.ref d = .ref a → ∀ x u, F.H0 a ≠ some (.frz x u) := fun a ea x u z => by
            cases ea
            obtain ⟨o', e1, e2⟩ := rel.since.tk d _ z
            rw [e2 _ _ rfl, hd] at e1
            cases e1
          obtain ⟨d2, ed, _, ⟨q2, gq2, nf2⟩, put2⟩ := put_okU (c' := .dict kvs) rel2 rrd hp2 nf0
          cases ed
          have nd : ∀ b, G b = some .frz → b ≠ d := fun b gb z => gn (by rw [← z]; exact gb)
          have mo2 : Mo G H G' (upd H' d (.dK dk)) := by
            refine ⟨fun b gb => ?_, fun b n gb => ev.ob b n gb⟩
            obtain ⟨g1, h1⟩ := ev.fz b gb
            exact ⟨g1, by rw [upd_ne (nd b gb), h1, upd_ne (nd b gb)]⟩
          have rel3 := put2 (.dK dk) ⟨.dK dk, upd_same, dk, rfl, hk, VRs.mono mo2 _ _ hv⟩
          have evo : Evo EvT G H G' (upd H' d (.dK dk)) := by
            refine ⟨fun b u hb gb => ?_, mo2.fz, ev.ob, ev.fl, fun b u hb => ?_⟩
            · have hne : b ≠ d := fun z => g0 (by rw [← z]; exact gb)
              obtain ⟨h1, g1⟩ := ev.un b u (by rw [upd_ne hne]; exact hb) gb
              exact ⟨by rw [upd_ne hne]; exact h1, g1⟩
            · by_cases z : b = d
              · subst z
                rw [hd] at hb; cases hb
                exact ⟨_, upd_same, fun x w q => by cases q⟩
              · obtain ⟨u', h1, k1⟩ := ev.tk b u (by rw [upd_ne z]; exact hb)
                exact ⟨u', by rw [upd_ne z]; exact h1, k1⟩
          have gn2 : G' d ≠ some .frz := fun z => nf2 (by rw [z] at gq2; exact (Option.some.inj gq2).symm)
          have mu2 : Mo G' H' G' (upd H' d (.dK dk)) := Mo.upd gn2
          have rr3 : RR R σ H G' (upd H' d (.dK dk)) v v' := by
            have rr2 : RR R σ (upd H d (.frz od (.dK dk))) G' H' v v' := rr2
            cases v with
            | v x => exact VR.mono mu2 x v' rr2
            | own c =>
              obtain ⟨a, ea, hn, ga, k⟩ := rr2
              have hne : a ≠ d := fun z => by rw [z, upd_same] at hn; cases hn
              exact ⟨a, ea, by rw [upd_ne hne] at hn; exact hn, ga, k.mono mu2 (upd_ne hne)⟩
            | loc i => exact rr2
            | fld n f => exact rr2
          exact o G' _ v' rel3 evo rr3
        · exact o.elim
      · exact o.elim
    · exact o.elim
  · exact o.elim
/-! the keys, the items of a locked dict -/
theorem VR_key {K : PySem.W.Frag} {G : Gh} {H : Hp} (k : Key) : VR K G H (keyMV k) (kV k) := by
  cases k with
  | inl i => exact VR.mkInt
  | inr x =>
    show VR K G H (.str x.cps.toList) (.str x)
    unfold VR
    obtain ⟨z⟩ := x
    simp
def mKeys (fo : ME) : MS → Out MI := fun s => (fo s).bind fun r s1 => match cont s1 r with
  | some (.lock kvs) => .ok ⟨kvs.map (·.1), fun _ => True⟩ s1
  | _ => .bad
def mItems (fo : ME) : MS → Out MI := fun s => (fo s).bind fun r s1 => match cont s1 r with
  | some (.lock kvs) => .ok ⟨kvs.map fun q => .tup [q.1, q.2], fun _ => True⟩ s1
  | _ => .bad
theorem kv_at {K : PySem.W.Frag} {G : Gh} {H : Hp} {kvs : List (MV × MV)} {dk : List (Key × V)} (hk : kvs.map (·.1) = dk.map fun q => keyMV q.1) (hv : VRs K G H (kvs.map (·.2)) (dk.map (·.2))) {i : Nat} {p : MV × MV} {k : Key} {v : V} (h1 : kvs[i]? = some p) (h2 : dk[i]? = some (k, v)) : p.1 = keyMV k ∧ VR K G H p.2 v := by
  refine ⟨?_, ?_⟩
  · have := congrArg (·[i]?) hk
    simp [h1, h2] at this
    exact this
  · obtain ⟨w, hw, vr⟩ := hv.get (i := i) (x := p.2) (by simp [h1])
    simp [h2] at hw
    rw [hw]; exact vr
theorem ji_keys {tg : Expr} {fo : ME} (ho : JE X R W e fo) : JI X R W tg e (mKeys fo) := fun hK F => PI.imp (pi_keys (ho hK F)) fun σ H Rr h => by
  refine (first (M := rlE) h).mono fun v H1 ⟨G, r, s1, G1, w, rr, o⟩ => ?_
  split at o
  · rename_i kvs hc
    obtain ⟨a, rfl, od, ho', hd, dk, rfl, hk, hv⟩ := cont_ok w.rel (show RR R σ H G1 H1 r v from rr) hc
    have hl : kvs.length = dk.length := by have := congrArg List.length hk; simpa using this
    refine ⟨a, od, rfl, .inl ⟨dk, hd, o _ _ _ w.rel w.evo ?_⟩⟩
    intro F2 G2 H2 s2 σ2 rel ev ck
    have hf : H2 a = some (.frz od (.dK dk)) := by
      obtain ⟨o', e1, e2⟩ := ev.tk a _ hd
      rw [e2 _ _ rfl] at e1; exact e1
    refine ⟨fun i hi => ⟨hf, by simp at hi; omega⟩, ⟨hf, by simp [hl]⟩, fun i x v H3 hx y => ?_⟩
    obtain ⟨rfl, k, v0, hdk, rfl⟩ := y
    simp only [List.getElem?_map, Option.map_eq_some_iff] at hx
    obtain ⟨p, hp, rfl⟩ := hx
    refine .inl ⟨rfl, ?_⟩
    rw [(kv_at hk hv hp hdk).1]
    exact VR_key k
  · exact o.elim
theorem ji_items {elts : List Expr} {kk : Nat} {tpos apos cpos : Pos} {fo : ME} (ho : JE X R W e fo) (hbase : attributeBase e "items" X.env (eval e X.env) = eval e X.env := by rfl) (hline : (apos.endLine == cpos.line) = true := by rfl) :
    JI X R W (.Tuple elts kk tpos) (.Call (.Attribute e "items" apos) [] [] cpos) (mItems fo) := fun hK F => PI.imp (pi_items (ho hK F) hbase hline) fun σ H Rr h => by
  refine (first (M := rlE) h).mono fun v H1 ⟨G, r, s1, G1, w, rr, o⟩ => ?_
  split at o
  · rename_i kvs hc
    obtain ⟨a, rfl, od, ho', hd, dk, rfl, hk, hv⟩ := cont_ok w.rel (show RR R σ H G1 H1 r v from rr) hc
    have hl : kvs.length = dk.length := by have := congrArg List.length hk; simpa using this
    refine ⟨a, od, dk, rfl, hd, o _ _ _ w.rel w.evo ?_⟩
    intro F2 G2 H2 s2 σ2 rel ev ck
    have hf : H2 a = some (.frz od (.dK dk)) := by
      obtain ⟨o', e1, e2⟩ := ev.tk a _ hd
      rw [e2 _ _ rfl] at e1; exact e1
    have hv2 : VRs R.K G2 H2 (kvs.map (·.2)) (dk.map (·.2)) := VRs.mono ev.mo _ _ hv
    refine ⟨fun i hi => ⟨hf, by simp at hi; omega⟩, ⟨hf, by simp [hl]⟩, fun i x v H3 hx y => ?_⟩
    obtain ⟨T, k, v0, hdk, rfl, hT, rfl⟩ := y
    simp only [List.getElem?_map, Option.map_eq_some_iff] at hx
    obtain ⟨p, hp, rfl⟩ := hx
    obtain ⟨e1, vr⟩ := kv_at hk hv2 hp hdk
    rw [e1]
    exact .inr ⟨T, _, _, rfl, rfl, hT, rfl, VRs.cons (VR_key k) (VRs.cons vr (VRs.nil (K := R.K)))⟩
  · exact o.elim
end
end Mi
set_option Elab.async false
set_option linter.all false
set_option maxRecDepth 100000
set_option maxHeartbeats 4000000
namespace Mi
open PySem PySem.Spec PyProof.Rows L2
/-! dict comprehensions -/
section
variable {X : Cx} {R : RC} {W : WX} {pos : Pos}
open Classical in
noncomputable def dcGo (vs : List Nat) (chk : MS → Prop) (tg : MG) (tt : MS → Out Bool) (tk te : ME) : List MV → List (MV × MV) → MS → Out (List (MV × MV))
  | [], acc, s => if chk s then .ok acc s else .bad
  | x :: xs, acc, s => if chk s then (match tg x s with
    | none => .bad
    | some s1 => (tt s1).bind fun b s2 => if b = true then (mSh tk s2).bind fun k s3 => (mSh te s3).bind fun y s4 => (match keyOf k with
      | some _ => if acc.length < sizeLine then dcGo vs chk tg tt tk te xs (setK acc k y) { s4 with env := wipeM s4.env vs } else .bad
      | none => .bad)
      else dcGo vs chk tg tt tk te xs acc { s2 with env := wipeM s2.env vs }) else .bad
noncomputable def mDc (vs : List Nat) (it : MS → Out MI) (tg : MG) (tt : MS → Out Bool) (tk te : ME) : ME := fun s => (it s).bind fun I s1 =>
  (noExc (dcGo vs I.chk tg tt tk te I.items [] { s1 with env := wipeM s1.env vs })).bind fun acc s2 => .ok (.own (.dict acc)) { s2 with env := backEnv s1.env s2.env vs }
theorem je_dc {kx vx tg iter : Expr} {ifs : List Expr} {scope : Scope} {own : List (Str × Nat)} {ws : List Nat} {fi : MS → Out MI} {ft : MG} {ftt : MS → Out Bool} {fk fe : ME} (hc : X.calm = true) (hN : X.N.Nodup) (hi : JI X R W tg iter fi) (ok : BlkOk X.N X.env.scope scope own)
    (hg : ∀ (s : Shared) (H : Hp) (C : Addr) (cl : List (Str × Addr)) (fp : List Addr), JG (X.blk s H scope (compEnvC scope cl C X.env) fp) R tg ws ft)
    (ht : ∀ (s : Shared) (H : Hp) (C : Addr) (cl : List (Str × Addr)) (fp : List Addr), JTs (X.blk s H scope (compEnvC scope cl C X.env) fp) R (fun _ _ _ _ => False) ifs ftt)
    (hk : ∀ (s : Shared) (H : Hp) (C : Addr) (cl : List (Str × Addr)) (fp : List Addr), JE (X.blk s H scope (compEnvC scope cl C X.env) fp) R (fun _ _ _ _ => False) kx fk)
    (he : ∀ (s : Shared) (H : Hp) (C : Addr) (cl : List (Str × Addr)) (fp : List Addr), JE (X.blk s H scope (compEnvC scope cl C X.env) fp) R (fun _ _ _ _ => False) vx fe)
    (hw : ∀ i ∈ ws, i ∈ own.map (·.2) := by decide) (hs : ∀ x, foldedSetIterable iter X.env x = pure x := by intro _; rfl) : JE X R W (.DictComp kx vx [⟨tg, iter, ifs, 0⟩] scope pos) (mDc (own.map (·.2)) fi ft ftt fk fe) := fun hK F => by
  generalize hvs : own.map (·.2) = vs at hw
  refine PE.imp (pe_dc hc hN (hi hK F) ok (fun s H C cl fp => hg s H C cl fp hK F) (fun s H C cl fp => ht s H C cl fp hK F) (fun s H C cl fp => jv_of (hk s H C cl fp) hK F) (fun s H C cl fp => jv_of (he s H C cl fp) hK F) hs) fun σ H Q h => ?_
  rw [hvs]
  refine (first (M := rlI) h).mono fun J H1 ⟨G, I, s1, G1, w, ir, o⟩ => ?_
  have ir : ItRel R G1 H1 I J := ir
  intro D hD
  have gD := w.rel.noRole hD
  have hDs := fresh_back w.evo hD
  have hD0 := fresh_back w.st hDs
  refine ⟨fun i m H' => i ≤ I.items.length ∧ m = I.items.length - i ∧ ∃ G2 s2 acc ws', Rel R F G2 s2 (L2.wipe σ vs) H' ∧ Evo EvT G1 H1 G2 H' ∧ G2 D = none ∧ H' D = some (.dK ws') ∧ DD R.K G2 H' acc ws' ∧
    OutX rlE R F W σ G H ((noExc (dcGo vs I.chk ft ftt fk fe (I.items.drop i) acc s2)).bind fun acc s2 => .ok (.own (.dict acc)) { s2 with env := backEnv s1.env s2.env vs }) Q,
    ⟨_, Nat.zero_le _, rfl, G1, _, [], [], (w.rel.alloc (o := .dK []) hD).wipe vs, Evo.refl.updNew hD gD, gD, upd_same, ⟨rfl, VRs.nil⟩, by simpa using o⟩, ?_⟩
  rintro i m H' ⟨hi, rfl, G2, s2, acc, ws', rel, ev, gD2, hD2, vacc, o⟩
  by_cases hlt : i < I.items.length
  · right
    rw [List.drop_eq_getElem_cons hlt] at o
    unfold dcGo at o
    split at o
    · rename_i hck
      obtain ⟨go, _, yl⟩ := ir F G2 H' s2 _ rel (ev.weak fun _ _ => trivial) hck
      refine ⟨go i hlt, fun H3 => ∃ G3 s3 acc ws', Rel R F G3 s3 (L2.wipe σ vs) H3 ∧ Evo EvT G1 H1 G3 H3 ∧ G3 D = none ∧ H3 D = some (.dK ws') ∧ DD R.K G3 H3 acc ws' ∧
        OutX rlE R F W σ G H ((noExc (dcGo vs I.chk ft ftt fk fe (I.items.drop (i + 1)) acc s3)).bind fun acc s2 => .ok (.own (.dict acc)) { s2 with env := backEnv s1.env s2.env vs }) Q,
        fun H3 ⟨G3, s3, a3, w3, k⟩ => ⟨I.items.length - (i + 1), by omega, hlt, rfl, G3, s3, a3, w3, k⟩, fun x H3 y => ?_⟩
      have hx : I.items[i]? = some I.items[i] := List.getElem?_eq_getElem hlt
      obtain ⟨G3, rel3, vr3, ev3⟩ := yield_in (G0 := G) (H0 := H) rel (yl i _ x H3 hx y)
      refine ⟨G3, s2, _, rel3, vr3, ?_⟩
      split at o
      · exact o.elim
      · rename_i s3 e
        rw [e]
        intro σ4 rel4 so
        have hwp : L2.wipe σ4 vs = L2.wipe (L2.wipe σ vs) vs := wipe_out so hw
        have hwp : L2.wipe σ4 vs = L2.wipe σ vs := by rw [hwp, wipe_wipe]
        refine ⟨hwp, ?_⟩
        obtain ⟨hD3, gD3⟩ := ev3.un D _ hD2 gD2
        -- the test
        refine ⟨G3, s3, rel4, ?_⟩
        cases q : ftt s3 with
        | bad => rw [q] at o; exact o.elim
        | exc c xs s4 => rw [q] at o; exact o.elim
        | ok b s4 =>
          rw [q] at o
          intro G4 H4 b' rel5 ev5 eb
          have eb : b' = b := eb
          subst eb
          obtain ⟨hD4, gD4⟩ := ev5.un D _ hD3 gD3
          have ev4 : Evo EvT G1 H1 G4 H4 := ev.trans (ev3.trans ev5)
          have vacc4 : DD R.K G4 H4 acc ws' := ⟨vacc.1, VRs.mono (ev3.trans ev5).mo _ _ vacc.2⟩
          simp only [Out.bind_ok] at o
          cases b' with
          | false =>
            simp only [Bool.false_eq_true, if_false] at o ⊢
            exact ⟨G4, _, acc, ws', by have := rel5.wipe vs; rw [hwp] at this; exact this, ev4, gD4, hD4, vacc4, o⟩
          | true =>
            simp only [if_true] at o ⊢
            refine ⟨G4, s4, rel5, ?_⟩
            cases q0 : mSh fk s4 with
            | bad => rw [q0] at o; exact o.elim
            | exc c xs s5 => rw [q0] at o; exact o.elim
            | ok k5 s5 =>
              rw [q0] at o
              intro G5 H5 kv rel6 ev6 vk
              have vk : VR R.K G5 H5 k5 kv := vk
              simp only [Out.bind_ok] at o
              obtain ⟨hD5, gD5⟩ := ev6.un D _ hD4 gD4
              refine ⟨G5, s5, rel6, ?_⟩
              cases q2 : mSh fe s5 with
              | bad => rw [q2] at o; exact o.elim
              | exc c xs s6 => rw [q2] at o; exact o.elim
              | ok y6 s6 =>
                rw [q2] at o
                intro G6 H6 yv rel7 ev7 vy
                have vy : VR R.K G6 H6 y6 yv := vy
                simp only [Out.bind_ok] at o
                obtain ⟨hD6, gD6⟩ := ev7.un D _ hD5 gD5
                split at o
                · rename_i kk hkk
                  obtain ⟨rfl, e2⟩ := keyOf_V vk hkk
                  subst e2
                  split at o
                  · rename_i hz
                    have v6 : DD R.K G6 H6 acc ws' := ⟨vacc4.1, VRs.mono (ev6.trans ev7).mo _ _ vacc4.2⟩
                    refine ⟨ws', kk, rfl, hD6, by rw [← v6.length]; exact hz, ?_⟩
                    have mu : Mo G6 H6 G6 (upd H6 D (.dK (putK ws' kk yv))) := Mo.upd (by rw [gD6]; simp)
                    have v7 := v6.put kk vy
                    refine ⟨G6, _, setK acc (keyMV kk) y6, putK ws' kk yv, ?_, (ev4.trans (ev6.trans ev7)).updNew hD gD6, gD6, upd_same, ⟨v7.1, VRs.mono mu _ _ v7.2⟩, o⟩
                    have r7 := (rel7.updNone (o := .dK (putK ws' kk yv)) gD6 hD0).wipe vs
                    rw [hwp] at r7
                    exact r7
                  · exact o.elim
                · exact o.elim
    · exact o.elim
  · left
    have e : i = I.items.length := by omega
    subst e
    rw [List.drop_length] at o
    unfold dcGo at o
    split at o
    · rename_i hck
      obtain ⟨_, st, _⟩ := ir F G2 H' s2 _ rel (ev.weak fun _ _ => trivial) hck
      exact ⟨st, o G2 H' (.ref D) (w.rel.unwipe rel ev.mo) (w.evo.trans ev) ⟨D, rfl, hDs, gD2, .dK ws', hD2, ws', rfl, vacc.1, vacc.2⟩⟩
    · exact o.elim
end
end Mi
set_option Elab.async false
set_option linter.all false
set_option maxRecDepth 100000
set_option maxHeartbeats 4000000
namespace Mi
open PySem PySem.Spec PyProof.Rows L2
/-! d.update(e) -/
def rUpdate : V → List V → Hp → VK → Prop := fun x xs H Q => ∃ (d o : Addr) (kvs more : List (Key × V)), x = .ref d ∧ xs = [.ref o] ∧ d ≠ o ∧ H d = some (.dK kvs) ∧ Rd H o (.dK more) ∧ kvs.length + more.length ≤ sizeLine ∧ Q .non (upd H d (.dK (mergeK kvs more)))
theorem mt_update {X : Cx} : MtR X "dict.update" rUpdate := by
  intro pins s σ H x xs v us Q I rx rxs h
  obtain ⟨d, o, kvs, more, rfl, rfl, hne, hD, hO, hz, q⟩ := h
  cases rx
  obtain ⟨u, rfl, ru⟩ := rxs.one
  cases ru
  obtain ⟨z, hd, vs, rel, dd⟩ := dk_of I.hok hD
  obtain ⟨z2, lo2, vs2, rel2, dd2⟩ := dk_rd I.hok hO
  have rm := KV.merge rel2 rel
  have hl : (mergeK kvs more).length ≤ sizeLine := Nat.le_trans (length_mergeK more kvs) hz
  refine call_meetsIn PySem.F.slot_dict_update dd.typeIs PySem.F.entry_dict_update (PySem.F.args_dict_update_2 _ _) (meets_dict_update (mixKind X.prog X.w) d o hne lo2) ⟨vs, vs2, dd, dd2, by rw [← rel.length, ← rel2.length]; exact hz, fun h' hmm _ hs => ?_⟩
  have he : ∃ q, h'.get? d = some q := let ⟨q, _, _, hq, _⟩ := hmm; ⟨q, hq⟩
  exact ⟨.non, upd H d (.dK (mergeK kvs more)), d_write (t' := s.toks) I (by rw [hD]; exact True.intro) hs he (dk_new hl hd rm hmm), rfl, q⟩
section
variable {X : Cx} {R : RC} {W : WX} {F : FI} {σ : L2.St} {G G1 : Gh} {H H1 : Hp} {s s1 : MS} {pos pp : Pos} {o e : Expr} {es : List Expr} {fo fe : ME} {fa : MS → Out (List MV)} {apos cpos : Pos}
def mDM (p : RV → List MV → MS → Out RV) (fo : ME) (fa : MS → Out (List MV)) : ME := fun s => (fo s).bind fun r s1 => match place s1 r with
  | some (.dict _) => (fa s1).bind fun rs s2 => p r rs s2
  | _ => .bad
def dUpdate (r : RV) (rs : List MV) (s : MS) : Out RV := match rs, place s r with
  | [.dct ks vs], some (.dict kvs) => if ks.length = vs.length ∧ kvs.length + ks.length ≤ sizeLine then .ok (.v .non) (putC s r (.dict (mergeM kvs (ks.zip vs)))) else .bad
  | _, _ => .bad
theorem je_dupdate (ho : JE X R W o fo) (ha : JAs X R W (e :: es) fa)
    (hbase : attributeBase o "update" X.env (eval o X.env) = eval o X.env := by rfl)
    (hfew : ((backTo cpos (starEach (e :: es) X.env)).all (fun x => !x.1) && (backToKw cpos (keywordEach [] X.env)).all (fun x => x.1.isSome)
      && decide ((e :: es).length + ([] : List Keyword).length + (if ([] : List Keyword).isEmpty then 0 else 1) < 30)) = true := by rfl)
    (hline : (apos.endLine == cpos.line) = true := by rfl) (hs : starEach (e :: es) X.env = (false, eval e X.env) :: starEach es X.env := by rfl) (hplain : (backTo cpos (starEach es X.env)).any (·.1) = false := by rfl) :
    JE X R W (.Call (.Attribute o "update" apos) (e :: es) [] cpos) (mDM dUpdate fo fa) := fun hK F =>
  PE.imp (pe_bm PySem.F.plainAttrs_dict PySem.F.slot_dict_update PySem.F.type_dict_update mt_update (ho hK F) (ha hK F) hbase hfew hline hs hplain) fun σ H Q h => by
    refine (first (M := rlE) h).mono fun x H1 ⟨G, r, s1, G1, w, rr, o⟩ => ?_
    have rr : RR R σ H G1 H1 r x := rr
    split at o
    · rename_i kvs0 hp
      obtain ⟨a, rfl, ⟨ho', ha, dk0, rfl, _, _⟩, _⟩ := put_ok (c' := .dict []) w.rel rr hp
      refine ⟨.inr (.inr (.inl ⟨rfl, .inl ⟨_, ha⟩⟩)), ?_⟩
      refine (next (M := rlS) w o).mono fun vs H2 ⟨rs, s2, G2, w2, e12, rr2, o2⟩ => ?_
      have rr2 : VRs R.K G2 H2 rs vs := rr2
      unfold dUpdate at o2
      split at o2
      · rename_i ks ws kvs hp2 _
        obtain ⟨u, t, rfl, p, q⟩ := rr2.inv
        unfold VRs at q; subst q
        split at o2
        · rename_i hl
          obtain ⟨a2, ea, ⟨ho2, ha2, dk, rfl, k1, k2⟩, ⟨q, gq, nf⟩, put⟩ := put_ok (c' := .dict (mergeM kvs (ks.zip ws))) w2.rel (rr.mono e12) hp2
          cases ea
          have p : VR R.K G2 H2 (.dct ks ws) u := p
          unfold VR at p
          obtain ⟨b, hb, rfl, gb, hb2, dk2, rfl, k3, k4⟩ := p
          have gn : G2 a ≠ some .frz := fun z => nf (by rw [z] at gq; exact (Option.some.inj gq).symm)
          have hne : a ≠ b := fun z => gn (by rw [z]; exact gb)
          have d1 : DD R.K G2 H2 kvs dk := ⟨k1, k2⟩
          have d2 : DD R.K G2 H2 (ks.zip ws) dk2 := ⟨by rw [zip_fst hl.1]; exact k3, by rw [zip_snd hl.1]; exact k4⟩
          have l1 := d1.length
          have l2 := d2.length
          have l3 : (ks.zip ws).length = ks.length := by simp [hl.1]
          have mu : Mo G2 H2 G2 (upd H2 a (.dK (mergeK dk dk2))) := Mo.upd gn
          have d3 := DD.merge d2 d1
          refine ⟨a, b, dk, dk2, rfl, rfl, hne, ha2, .inl hb2, by omega, ?_⟩
          exact o2 _ _ _ (put _ ⟨_, upd_same, _, rfl, d3.1, VRs.mono mu _ _ d3.2⟩) (w2.evo.trans (Evo.updRole gn (by rw [gq]; simp) (fun x u z => by rw [ha2] at z; cases z))) (VR.mkNon (K := R.K) (G := G2) (H := upd H2 a (.dK (mergeK dk dk2))))
        · exact o2.elim
      · exact o2.elim
    · exact o.elim
/-! d.pop(k) of a key that is there -/
def delK (kvs : List (MV × MV)) (k : MV) : List (MV × MV) := kvs.filter fun p => !eqK p.1 k
theorem DD.drop {K : PySem.W.Frag} {G : Gh} {H : Hp} (k : Key) : ∀ {kvs : List (MV × MV)} {dk : List (Key × V)}, DD K G H kvs dk → DD K G H (delK kvs (keyMV k)) (dropK dk k)
  | [], dk, h => by rw [h.nil]; exact ⟨rfl, VRs.nil (K := K) (G := G) (H := H)⟩
  | p :: kvs, dk, h => by
    obtain ⟨j, v, r, rfl, e, hv, hr⟩ := h.inv
    have ih := DD.drop k hr
    unfold delK dropK at *
    simp only [List.filter_cons, e, eqK_iff]
    by_cases z : j = k
    · simpa [z] using ih
    · simp only [z, decide_false, Bool.not_false, if_true, ne_eq, not_false_eq_true, decide_true]
      exact .cons e hv ih
def mDPop (fo fe : ME) : ME := fun s => (fo s).bind fun r s1 => match place s1 r with
  | some (.dict _) => (mSh fe s1).bind fun q s2 => (match place s2 r with
    | some (.dict kvs) => match keyOf q with
      | some _ => match getK kvs q with
        | some x => .ok (.v x) (putC s2 r (.dict (delK kvs q)))
        | none => .bad
      | none => .bad
    | _ => .bad)
  | _ => .bad
theorem je_dpop (ho : JE X R W o fo) (he : JE X R W e fe) (m : M1 X o "pop" apos e cpos := by exact ⟨rfl, rfl, rfl, rfl⟩) : JE X R W (.Call (.Attribute o "pop" apos) [e] [] cpos) (mDPop fo fe) := fun hK F =>
  PE.imp (pe_dpop1 (ho hK F) (jv_of he hK F) m) fun σ H Q h => by
    refine (first (M := rlE) h).mono fun x H1 ⟨G, r, s1, G1, w, rr, o⟩ => ?_
    have rr : RR R σ H G1 H1 r x := rr
    split at o
    · rename_i kvs0 hp
      obtain ⟨a, rfl, ⟨ho', ha, dk0, rfl, _, _⟩, _⟩ := put_ok (c' := .dict []) w.rel rr hp
      refine ⟨a, rfl, .inl ⟨dk0, .inl ha⟩, ?_⟩
      refine (next (M := rlV) w o).mono fun y H2 ⟨q, s2, G2, w2, e12, rq, o2⟩ => ?_
      have rq : VR R.K G2 H2 q y := rq
      split at o2
      · rename_i kvs hp2
        obtain ⟨a2, dk, ea, ha2, dd, ⟨g0, gq, nf⟩, put⟩ := put_dct w2 (rr.mono e12) hp2
        cases ea
        have gn : G2 a ≠ some .frz := fun z => nf (by rw [z] at gq; exact (Option.some.inj gq).symm)
        split at o2
        · rename_i kk hk
          obtain ⟨rfl, e⟩ := keyOf_V rq hk
          subst e
          split at o2
          · rename_i x0 hx
            obtain ⟨v', hv', vr⟩ := (dd.get kk).2 x0 hx
            have mu : Mo G2 H2 G2 (upd H2 a (.dK (dropK dk kk))) := Mo.upd gn
            refine ⟨dk, kk, v', ha2, rfl, hv', ?_⟩
            exact o2 _ _ _ (put _ _ (dd.drop kk)) (w2.evo.trans (Evo.updRole gn (by rw [gq]; simp) (fun x u z => by rw [ha2] at z; cases z))) (VR.mono mu _ _ vr)
          · exact o2.elim
        · exact o2.elim
      · exact o2.elim
    · exact o.elim
end
end Mi
set_option Elab.async false
set_option linter.all false
set_option maxRecDepth 100000
set_option maxHeartbeats 4000000
namespace Mi
open PySem PySem.Spec PyProof.Rows L2
/-! len of a dict, too -/
section
variable {X : Cx} {R : RC} {W : WX} {pos pp : Pos} {e : Expr} {es : List Expr} {kws : List Keyword} {x : Str} {fs : MS → Out (List RV)}
def rLenDA (K : PySem.W.Frag) : List V → Hp → VK → Prop := fun xs H Q => (∃ x n, xs = [x] ∧ LenV K x H n ∧ Q (.int n) H) ∨ ∃ a kvs, xs = [V.ref a] ∧ Rd H a (.dK kvs) ∧ Q (.int kvs.length) H
theorem call_lenDA : CallR X (.builtin "len") (rLenDA X.K) := by
  intro pins s σ H xs us Q I r h
  rcases h with h | ⟨a, kvs, rfl, ha, q⟩
  · exact call_len pins s σ H xs us Q I r h
  · obtain ⟨u, rfl, ru⟩ := vals1 r
    cases ru
    exact d_len I ha fun t s' I' => ⟨.int kvs.length, H, I', ⟨t, rfl⟩, q⟩
def pLenA (rs : List RV) (s : MS) : Out RV := match rs with
  | [r] => match dictOf s r with
    | some kvs => .ok (.v (.int kvs.length)) s
    | none => pLen [r] s
  | _ => .bad
theorem pr_lenA : PrimC R (rLenDA R.K) pLenA := fun {F W σ G H G2 H2 s2 rs vs Q} w rr o => by
  unfold pLenA at o
  split at o
  · rename_i r0 _
    split at o
    · rename_i kvs hd
      obtain ⟨v, t, rfl, r1, rfl⟩ := rr
      obtain ⟨a, dk, rfl, ha, dd⟩ := dict_ok w.rel r1 hd
      exact .inr ⟨a, dk, rfl, ha, by rw [← dd.length]; exact finI w o⟩
    · exact .inl (pr_len w rr o)
  · exact o.elim
theorem je_lenA (ha : JA X R W (e :: es) fs) (hm : X.mg "len" = none) (hg : Gl X "len" := by rfl) (he : starEach (e :: es) X.env = (false, eval e X.env) :: starEach es X.env := by rfl) (hpl : (backTo pos (starEach es X.env)).any (·.1) = false := by rfl) :
    JE X R W (.Call (.Name "len" pp) (e :: es) [] pos) (mCallB pLenA fs) := je_callB call_lenDA (fun h => h ▸ pr_lenA) hm PySem.boot_len ha hg (he := he) (hpl := hpl)
/-! an instance made with keywords -/
variable {f : Addr} {fd : FuncData} {ps ks : List Str} {n k : Nat} {run : Fn} {idx : List Nat} {fk : MS → Out (List MV)}
def mMakeK (c m : Nat) (run : Fn) (n nk : Nat) (idx : List Nat) (fk : MS → Out (List MV)) : ME := fun s => (fk s).bind fun ys s1 => if ys.length = nk ∧ (permL idx (MV.ref s1.hp.length :: ys)).length = n then
    (mRun run (permL idx (.ref s1.hp.length :: ys)) { s1 with hp := s1.hp ++ [.inst c (List.replicate m none)] }).bind fun r s2 => (match r with
      | .v .non => .ok (.v (.ref s1.hp.length)) s2
      | _ => .bad)
  else .bad
theorem run_makeSDK {pins : List (Addr × Obj)} {σ : L2.St} {H : Hp} {s : Shared} {Q : VK} {ws : List Value} {zs : List V} {C : Addr} {sp : Sp} {E : L2.St → XK} (M : Mk X.K C f) (Fo : FnOk X.prog X.w X.K X.mg X.base (L2.CX X.prog X.w) k f fd ps sp) (hr : Room (k + 1) X.A) (hb : KB fd ps ks 1 idx)
    (hx : PassesAt (L2.CX X.prog X.w) X σ (E σ)) (I : Inv X pins σ H s) (r : Vals zs ws) (hw : ws.length = ks.length)
    (h : ∀ p d, H p = none → H d = none → d ≠ p → sp (permL idx (.ref p :: zs)) (upd (upd H d (.own p)) p (.ins C d [])) (fun v H2 => v = .non ∧ Q (.ref p) H2) (E σ)) :
    wpAny (model X.prog X.w) X.A (call (.ref C) [] (ks.zip ws)) (EP X pins σ Q) X.xe s := by
  have hq := h (s.heap.objs.size + 1) s.heap.objs.size (I.hok.fresh (Nat.le_succ _)) (I.hok.fresh (Nat.le_refl _)) (Nat.ne_of_lt (Nat.lt_succ_self _))
  have I2 := Inv.made (C := C) I
  have r2 : Vals (V.ref (s.heap.objs.size + 1) :: zs) (Value.ref (s.heap.objs.size + 1) :: ws) := .cons rfl r
  refine wpAny_call (make_map (f := f) I.kIn M.makes M.init (beq_iff_eq.mp M.fn) (codeAny_mono (Fo.run _ X.stack _ _ ⟨[Value.ref (s.heap.objs.size + 1)], ks.zip ws⟩ (permL idx (Value.ref (s.heap.objs.size + 1) :: ws)) _ _ (E σ) (hr.make C [] (ks.zip ws))
    (I2.env0.make C [] (ks.zip ws)) (hb _ [Value.ref (s.heap.objs.size + 1)] ws rfl hw) (vals_perm r2 idx) hq) fun r s' hq' => ?_))
  cases r with
  | error e => exact hx pins _ _ e s' I2 hq'
  | ok fl =>
    cases fl with
    | ret u =>
      obtain ⟨v, H', I3, rv, ev, q3⟩ := I2.after hq'
      subst ev
      exact ⟨rv, ⟨V.ref (s.heap.objs.size + 1), H', I3, rfl, q3⟩⟩
    | next => exact False.elim hq'
    | brk => exact False.elim hq'
    | cont => exact False.elim hq'
theorem je_makeK0 (c : Nat) (M : Mk X.K (R.cls c) f) (Fo : FnOk X.prog X.w X.K X.mg X.base (L2.CX X.prog X.w) k f fd ps (spF R n run)) (tk : Takes X W) (hr : Room (k + 1) X.A) (hm : X.mg x = some (.ref (R.cls c))) (hb : KB fd ps ks 1 idx)
    (hkw : JKs X R W kws fk) {m : Nat} (hmm : (R.flds c).length = m := by rfl) (hg : Gl X x := by rfl) (hdb : (x == ("__debug__" : Str)) = false := by decide)
    (hall : (backToKw pos (keywordEach kws X.env)).all (·.1.isSome) = true := by rfl) (hks : (backToKw pos (keywordEach kws X.env)).filterMap (·.1) = ks := by rfl)
    (hpl : ((backTo pos (starEach [] X.env)).any (·.1) || (backToKw pos (keywordEach kws X.env)).any (·.1.isNone)) = false := by rfl) :
    JE X R W (.Call (.Name x pp) [] kws pos) (mMakeK c m run n ks.length idx fk) := fun hK F => by
  subst hmm
  refine ⟨fun pins s σ H Q I h => ?_⟩
  refine wpAny_Call_Name_kw (ld_glob I hg hm ?_ hdb)
  refine PySem.W.callWith_KW0 (h₀ := X.base) I.ok.mod.kin M.kp hall (thn ((hkw hK F).run pos pins s σ H _ I (first (M := rlS) h)) fun ws s2 ⟨zs, H2, I2, rz, G, ys, s1, G1, w, rr, o⟩ => ⟨I2.kIn, ?_⟩) hpl
  have rr : VRs R.K G1 H2 ys zs := rr
  split at o
  · rename_i hl
    rw [hks]
    have hw : ws.length = ks.length := by rw [← rz.length, ← rr.length]; exact hl.1
    refine run_makeSDK (E := WE W) M Fo hr hb (passAt tk σ) I2 rz hw fun p d hp hd ne => ?_
    obtain ⟨rel, ev, mo⟩ := make_way w rfl hp hd ne
    have w2 : Way R F σ (setG G1 p (some (.obj s1.hp.length))) (upd (upd H2 d (.own p)) p (.ins (R.cls c) d [])) (setG G1 p (some (.obj s1.hp.length))) (upd (upd H2 d (.own p)) p (.ins (R.cls c) d [])) { s1 with hp := s1.hp ++ [.inst c (List.replicate (R.flds c).length none)] } := ⟨rel, .refl, rel.since⟩
    have vs : VRs R.K (setG G1 p (some (.obj s1.hp.length))) (upd (upd H2 d (.own p)) p (.ins (R.cls c) d [])) (.ref s1.hp.length :: ys) (.ref p :: zs) := VRs.cons (by unfold VR; exact ⟨p, rfl, setG_same⟩) (VRs.mono mo _ _ rr)
    refine run_sp w2 (vs.perm idx) hl.2 ?_
    cases q : mRun run (permL idx (.ref s1.hp.length :: ys)) { s1 with hp := s1.hp ++ [.inst c (List.replicate (R.flds c).length none)] } with
    | ok rv s2 =>
      rw [q] at o
      intro G' H' v rel' ev' rr
      have rr : RR R σ _ G' H' rv v := rr
      simp only [Out.bind_ok] at o
      split at o
      · cases RR.non rr
        refine ⟨rfl, o _ _ _ rel' (ev.trans ev') ?_⟩
        show VR _ _ _ _ _
        unfold VR
        exact ⟨p, rfl, ev'.ob p _ setG_same⟩
      · exact o.elim
    | exc c ys s2 =>
      rw [q] at o
      exact fun G' H' cls d rel' ev' x => o G' H' cls d rel' (ev.trans ev') x
    | bad => rw [q] at o; exact o.elim
  · exact o.elim
end
end Mi
set_option Elab.async false
set_option linter.all false
set_option maxRecDepth 100000
set_option maxHeartbeats 4000000
namespace Mi
open PySem PySem.Spec PyProof.Rows L2
/-! a comprehension that is set to a local on its own line -/
section
variable {X : Cx} {R : RC} {W : WX} {pos : Pos}
theorem tdc_imp {F : FI} {vs ws : List Nat} {fi : MS → Out MI} {ft : MG} {ftt : MS → Out Bool} {fk fe : ME} (hw : ∀ i ∈ ws, i ∈ vs) {σ : L2.St} {H : Hp} {Q : VK} (h : tE R F W (mDc vs fi ft ftt fk fe) σ H Q) :
    tDc (tX rlI R F W fi) (tG R F ws ft) (tT R F (fun _ _ _ _ => False) ftt) (tV R F (fun _ _ _ _ => False) (mSh fk)) (tV R F (fun _ _ _ _ => False) (mSh fe)) vs σ H Q := by
  refine (first (M := rlI) h).mono fun J H1 ⟨G, I, s1, G1, w, ir, o⟩ => ?_
  have ir : ItRel R G1 H1 I J := ir
  intro D hD
  have gD := w.rel.noRole hD
  have hDs := fresh_back w.evo hD
  have hD0 := fresh_back w.st hDs
  refine ⟨fun i m H' => i ≤ I.items.length ∧ m = I.items.length - i ∧ ∃ G2 s2 acc ws', Rel R F G2 s2 (L2.wipe σ vs) H' ∧ Evo EvT G1 H1 G2 H' ∧ G2 D = none ∧ H' D = some (.dK ws') ∧ DD R.K G2 H' acc ws' ∧
    OutX rlE R F W σ G H ((noExc (dcGo vs I.chk ft ftt fk fe (I.items.drop i) acc s2)).bind fun acc s2 => .ok (.own (.dict acc)) { s2 with env := backEnv s1.env s2.env vs }) Q,
    ⟨_, Nat.zero_le _, rfl, G1, _, [], [], (w.rel.alloc (o := .dK []) hD).wipe vs, Evo.refl.updNew hD gD, gD, upd_same, ⟨rfl, VRs.nil⟩, by simpa using o⟩, ?_⟩
  rintro i m H' ⟨hi, rfl, G2, s2, acc, ws', rel, ev, gD2, hD2, vacc, o⟩
  by_cases hlt : i < I.items.length
  · right
    rw [List.drop_eq_getElem_cons hlt] at o
    unfold dcGo at o
    split at o
    · rename_i hck
      obtain ⟨go, _, yl⟩ := ir F G2 H' s2 _ rel (ev.weak fun _ _ => trivial) hck
      refine ⟨go i hlt, fun H3 => ∃ G3 s3 acc ws', Rel R F G3 s3 (L2.wipe σ vs) H3 ∧ Evo EvT G1 H1 G3 H3 ∧ G3 D = none ∧ H3 D = some (.dK ws') ∧ DD R.K G3 H3 acc ws' ∧
        OutX rlE R F W σ G H ((noExc (dcGo vs I.chk ft ftt fk fe (I.items.drop (i + 1)) acc s3)).bind fun acc s2 => .ok (.own (.dict acc)) { s2 with env := backEnv s1.env s2.env vs }) Q,
        fun H3 ⟨G3, s3, a3, w3, k⟩ => ⟨I.items.length - (i + 1), by omega, hlt, rfl, G3, s3, a3, w3, k⟩, fun x H3 y => ?_⟩
      have hx : I.items[i]? = some I.items[i] := List.getElem?_eq_getElem hlt
      obtain ⟨G3, rel3, vr3, ev3⟩ := yield_in (G0 := G) (H0 := H) rel (yl i _ x H3 hx y)
      refine ⟨G3, s2, _, rel3, vr3, ?_⟩
      split at o
      · exact o.elim
      · rename_i s3 e
        rw [e]
        intro σ4 rel4 so
        have hwp : L2.wipe σ4 vs = L2.wipe (L2.wipe σ vs) vs := wipe_out so hw
        have hwp : L2.wipe σ4 vs = L2.wipe σ vs := by rw [hwp, wipe_wipe]
        refine ⟨hwp, ?_⟩
        obtain ⟨hD3, gD3⟩ := ev3.un D _ hD2 gD2
        -- the test
        refine ⟨G3, s3, rel4, ?_⟩
        cases q : ftt s3 with
        | bad => rw [q] at o; exact o.elim
        | exc c xs s4 => rw [q] at o; exact o.elim
        | ok b s4 =>
          rw [q] at o
          intro G4 H4 b' rel5 ev5 eb
          have eb : b' = b := eb
          subst eb
          obtain ⟨hD4, gD4⟩ := ev5.un D _ hD3 gD3
          have ev4 : Evo EvT G1 H1 G4 H4 := ev.trans (ev3.trans ev5)
          have vacc4 : DD R.K G4 H4 acc ws' := ⟨vacc.1, VRs.mono (ev3.trans ev5).mo _ _ vacc.2⟩
          simp only [Out.bind_ok] at o
          cases b' with
          | false =>
            simp only [Bool.false_eq_true, if_false] at o ⊢
            exact ⟨G4, _, acc, ws', by have := rel5.wipe vs; rw [hwp] at this; exact this, ev4, gD4, hD4, vacc4, o⟩
          | true =>
            simp only [if_true] at o ⊢
            refine ⟨G4, s4, rel5, ?_⟩
            cases q0 : mSh fk s4 with
            | bad => rw [q0] at o; exact o.elim
            | exc c xs s5 => rw [q0] at o; exact o.elim
            | ok k5 s5 =>
              rw [q0] at o
              intro G5 H5 kv rel6 ev6 vk
              have vk : VR R.K G5 H5 k5 kv := vk
              simp only [Out.bind_ok] at o
              obtain ⟨hD5, gD5⟩ := ev6.un D _ hD4 gD4
              refine ⟨G5, s5, rel6, ?_⟩
              cases q2 : mSh fe s5 with
              | bad => rw [q2] at o; exact o.elim
              | exc c xs s6 => rw [q2] at o; exact o.elim
              | ok y6 s6 =>
                rw [q2] at o
                intro G6 H6 yv rel7 ev7 vy
                have vy : VR R.K G6 H6 y6 yv := vy
                simp only [Out.bind_ok] at o
                obtain ⟨hD6, gD6⟩ := ev7.un D _ hD5 gD5
                split at o
                · rename_i kk hkk
                  obtain ⟨rfl, e2⟩ := keyOf_V vk hkk
                  subst e2
                  split at o
                  · rename_i hz
                    have v6 : DD R.K G6 H6 acc ws' := ⟨vacc4.1, VRs.mono (ev6.trans ev7).mo _ _ vacc4.2⟩
                    refine ⟨ws', kk, rfl, hD6, by rw [← v6.length]; exact hz, ?_⟩
                    have mu : Mo G6 H6 G6 (upd H6 D (.dK (putK ws' kk yv))) := Mo.upd (by rw [gD6]; simp)
                    have v7 := v6.put kk vy
                    refine ⟨G6, _, setK acc (keyMV kk) y6, putK ws' kk yv, ?_, (ev4.trans (ev6.trans ev7)).updNew hD gD6, gD6, upd_same, ⟨v7.1, VRs.mono mu _ _ v7.2⟩, o⟩
                    have r7 := (rel7.updNone (o := .dK (putK ws' kk yv)) gD6 hD0).wipe vs
                    rw [hwp] at r7
                    exact r7
                  · exact o.elim
                · exact o.elim
    · exact o.elim
  · left
    have e : i = I.items.length := by omega
    subst e
    rw [List.drop_length] at o
    unfold dcGo at o
    split at o
    · rename_i hck
      obtain ⟨_, st, _⟩ := ir F G2 H' s2 _ rel (ev.weak fun _ _ => trivial) hck
      exact ⟨st, o G2 H' (.ref D) (w.rel.unwipe rel ev.mo) (w.evo.trans ev) ⟨D, rfl, hDs, gD2, .dK ws', hD2, ws', rfl, vacc.1, vacc.2⟩⟩
    · exact o.elim
theorem tlc_imp {F : FI} {vs ws : List Nat} {fi : MS → Out MI} {ft : MG} {ftt : MS → Out Bool} {fe : ME} (hw : ∀ i ∈ ws, i ∈ vs) {σ : L2.St} {H : Hp} {Q : VK} (h : tE R F W (mLc vs fi ft ftt fe) σ H Q) :
    tLc (tX rlI R F W fi) (tG R F ws ft) (tT R F (fun _ _ _ _ => False) ftt) (tV R F (fun _ _ _ _ => False) (mSh fe)) vs σ H Q := by
  refine (first (M := rlI) h).mono fun J H1 ⟨G, I, s1, G1, w, ir, o⟩ => ?_
  have ir : ItRel R G1 H1 I J := ir
  intro D hD
  have gD := w.rel.noRole hD
  have hDs := fresh_back w.evo hD
  have hD0 := fresh_back w.st hDs
  refine ⟨fun i m H' => i ≤ I.items.length ∧ m = I.items.length - i ∧ ∃ G2 s2 acc ws', Rel R F G2 s2 (L2.wipe σ vs) H' ∧ Evo EvT G1 H1 G2 H' ∧ G2 D = none ∧ H' D = some (.lst ws') ∧ VRs R.K G2 H' acc ws' ∧
    OutX rlE R F W σ G H ((noExc (lcGo vs I.chk ft ftt fe (I.items.drop i) acc s2)).bind fun acc s2 => .ok (.own (.lst acc)) { s2 with env := backEnv s1.env s2.env vs }) Q,
    ⟨_, Nat.zero_le _, rfl, G1, _, [], [], (w.rel.alloc (o := .lst []) hD).wipe vs, Evo.refl.updNew hD gD, gD, upd_same, VRs.nil, by simpa using o⟩, ?_⟩
  rintro i m H' ⟨hi, rfl, G2, s2, acc, ws', rel, ev, gD2, hD2, vacc, o⟩
  by_cases hlt : i < I.items.length
  · right
    rw [List.drop_eq_getElem_cons hlt] at o
    unfold lcGo at o
    split at o
    · rename_i hck
      obtain ⟨go, _, yl⟩ := ir F G2 H' s2 _ rel (ev.weak fun _ _ => trivial) hck
      refine ⟨go i hlt, fun H3 => ∃ G3 s3 acc ws', Rel R F G3 s3 (L2.wipe σ vs) H3 ∧ Evo EvT G1 H1 G3 H3 ∧ G3 D = none ∧ H3 D = some (.lst ws') ∧ VRs R.K G3 H3 acc ws' ∧
        OutX rlE R F W σ G H ((noExc (lcGo vs I.chk ft ftt fe (I.items.drop (i + 1)) acc s3)).bind fun acc s2 => .ok (.own (.lst acc)) { s2 with env := backEnv s1.env s2.env vs }) Q,
        fun H3 ⟨G3, s3, a3, w3, k⟩ => ⟨I.items.length - (i + 1), by omega, hlt, rfl, G3, s3, a3, w3, k⟩, fun x H3 y => ?_⟩
      have hx : I.items[i]? = some I.items[i] := List.getElem?_eq_getElem hlt
      obtain ⟨G3, rel3, vr3, ev3⟩ := yield_in (G0 := G) (H0 := H) rel (yl i _ x H3 hx y)
      refine ⟨G3, s2, _, rel3, vr3, ?_⟩
      split at o
      · exact o.elim
      · rename_i s3 e
        rw [e]
        intro σ4 rel4 so
        have hwp : L2.wipe σ4 vs = L2.wipe (L2.wipe σ vs) vs := wipe_out so hw
        have hwp : L2.wipe σ4 vs = L2.wipe σ vs := by rw [hwp, wipe_wipe]
        refine ⟨hwp, ?_⟩
        obtain ⟨hD3, gD3⟩ := ev3.un D _ hD2 gD2
        -- the test
        refine ⟨G3, s3, rel4, ?_⟩
        cases q : ftt s3 with
        | bad => rw [q] at o; exact o.elim
        | exc c xs s4 => rw [q] at o; exact o.elim
        | ok b s4 =>
          rw [q] at o
          intro G4 H4 b' rel5 ev5 eb
          have eb : b' = b := eb
          subst eb
          obtain ⟨hD4, gD4⟩ := ev5.un D _ hD3 gD3
          have ev4 : Evo EvT G1 H1 G4 H4 := ev.trans (ev3.trans ev5)
          have vacc4 := VRs.mono (ev3.trans ev5).mo _ _ vacc
          simp only [Out.bind_ok] at o
          cases b' with
          | false =>
            simp only [Bool.false_eq_true, if_false] at o ⊢
            exact ⟨G4, _, acc, ws', by have := rel5.wipe vs; rw [hwp] at this; exact this, ev4, gD4, hD4, vacc4, o⟩
          | true =>
            simp only [if_true] at o ⊢
            refine ⟨G4, s4, rel5, ?_⟩
            cases q2 : mSh fe s4 with
            | bad => rw [q2] at o; exact o.elim
            | exc c xs s5 => rw [q2] at o; exact o.elim
            | ok y5 s5 =>
              rw [q2] at o
              intro G5 H5 yv rel6 ev6 vy
              have vy : VR R.K G5 H5 y5 yv := vy
              simp only [Out.bind_ok] at o
              obtain ⟨hD5, gD5⟩ := ev6.un D _ hD4 gD4
              split at o
              · rename_i hz
                have v5 := VRs.mono ev6.mo _ _ vacc4
                refine ⟨ws', hD5, by rw [← v5.length]; exact hz, ?_⟩
                have mu : Mo G5 H5 G5 (upd H5 D (.lst (ws' ++ [yv]))) := Mo.upd (by rw [gD5]; simp)
                refine ⟨G5, _, acc ++ [y5], ws' ++ [yv], ?_, (ev4.trans ev6).updNew hD gD5, gD5, upd_same, (VRs.mono mu _ _ v5).append (.cons (VR.mono mu _ _ vy) .nil), o⟩
                have r7 := (rel6.updNone (o := .lst (ws' ++ [yv])) gD5 hD0).wipe vs
                rw [hwp] at r7
                exact r7
              · exact o.elim
    · exact o.elim
  · left
    have e : i = I.items.length := by omega
    subst e
    rw [List.drop_length] at o
    unfold lcGo at o
    split at o
    · rename_i hck
      obtain ⟨_, st, _⟩ := ir F G2 H' s2 _ rel (ev.weak fun _ _ => trivial) hck
      exact ⟨st, o G2 H' (.ref D) (w.rel.unwipe rel ev.mo) (w.evo.trans ev) ⟨D, rfl, hDs, gD2, ws', hD2, vacc⟩⟩
    · exact o.elim
theorem ps_setDc {i : Nat} {y : Str} {py : Pos} {kx vx tg iter : Expr} {ifs : List Expr} {scope : Scope} {own : List (Str × Nat)} {pos spos : Pos} {wi : TI} {g : TG} {tt : TT} {tk tv : TE} (hc : X.calm = true) (hN : X.N.Nodup) (hy : X.N[i]? = some y) (hyl : X.env.scope.names.lookup y = some .local)
    (hsw : swapsWith (.DictComp kx vx [⟨tg, iter, ifs, 0⟩] scope pos) (some (.Name y py)) spos.line X.env = pure true) (hi : PI X tg iter wi) (ok : BlkOk X.N X.env.scope scope own)
    (hg : ∀ (s : Shared) (H : Hp) (C : Addr) (cl : List (Str × Addr)) (fp : List Addr), PG (X.blk s H scope (compEnvC scope cl C X.env) fp) tg g) (ht : ∀ (s : Shared) (H : Hp) (C : Addr) (cl : List (Str × Addr)) (fp : List Addr), PTs (X.blk s H scope (compEnvC scope cl C X.env) fp) ifs tt)
    (hk : ∀ (s : Shared) (H : Hp) (C : Addr) (cl : List (Str × Addr)) (fp : List Addr), PE (X.blk s H scope (compEnvC scope cl C X.env) fp) kx tk)
    (he : ∀ (s : Shared) (H : Hp) (C : Addr) (cl : List (Str × Addr)) (fp : List Addr), PE (X.blk s H scope (compEnvC scope cl C X.env) fp) vx tv)
    (hs : ∀ x, foldedSetIterable iter X.env x = pure x := by intro _; rfl) :
    PS X (.Assign [.Name y py] (.DictComp kx vx [⟨tg, iter, ifs, 0⟩] scope pos) spos) (tAsg (tDc wi g tt tk tv (own.map (·.2))) (gName i)) := by
  refine ⟨fun pins s σ H D I h => ?_⟩
  rw [exec_Assign_Name_used _ _ _ _ hsw]
  refine wpAny_bind (wpAny_standAt (wpAny_bind ?_))
  show wpAny _ X.A (do let _ ← comprehension (.DictComp kx vx [⟨tg, iter, ifs, 0⟩] scope pos) scope X.env (firstIterPos [⟨tg, iter, ifs, 0⟩] pos) PySem.newDict false (eval iter X.env) (some (assign (.Name y py) X.env))) _ _ s
  have h : tDc wi g tt tk tv (own.map (·.2)) σ H (fun x H1 => gName i x σ H1 D.nx) := h
  refine wpAny_bind (thn (dc_core (Qf := fun _ s' => SP X pins D .next s') hc hN I hi ok hg ht hk he hs h fun L C s' m H' I' q hn f => ?_) fun _ s' hq => wpAny_pure (wpAny_pure hq))
  show wpAny _ _ (assign (.Name y py) X.env (.ref L)) _ _ _
  refine wpAny_assign_Name (store_ok2 (v := V.ref L) I' hN hy (.inl hyl) rfl (fun s2 I2 ⟨a, sb, ha⟩ => ?_) (.inr hyl))
  obtain ⟨f0, f1, f2, f3, f4, f5⟩ := f
  have haC : C ≠ a := by
    rcases ha with z | z
    · rw [z]; exact f1
    · exact fun e => f4 y a z e.symm
  refine ⟨m, hn.sameBut sb haC, fun h3 sb3 => ?_⟩
  exact ⟨_, H', I2.turned (t' := s2.toks) (fun b o hb e => (sb3.2 b hb).trans e) f0 f1 f3 f4 f5, q⟩
theorem sw_trueD {kx vx : Expr} {gs : List Comprehension} {scope : Scope} {pos py : Pos} {y : Str} {l : Nat} {env : Env} (hk : env.scope.kind = .function) (hy : env.scope.names.lookup y = some .local) (hl : (py.line == pos.line) = true)
    (ha : (scope.names.any fun (n, k) => n == y && (k == .local || k == .cell)) = false) : swapsWith (.DictComp kx vx gs scope pos) (some (.Name y py)) l env = pure true := by
  have ky : env.kindOf y = some .local := hy
  have hb : env.blockKind = .function := by unfold Env.blockKind; rw [hk]; rfl
  unfold swapsWith
  simp only [hb, ky, ha, Expr.pos, hl]
  rfl
theorem tX_of {F : FI} {i : Nat} {f : ME} {D : Ends} {σ : L2.St} {H : Hp} (h : tS R F W (mSet i f) D σ H) : tE R F W f σ H fun x H1 => gName i x σ H1 D.nx := by
  obtain ⟨G, s, rel, o⟩ := h
  refine ⟨G, s, rel, ?_⟩
  have o : OutS R F W G H ((f s).bind fun r s1 => putSlot i r s1) D := o
  cases q : f s with
  | bad => rw [q] at o; exact o.elim
  | exc c xs s2 => rw [q] at o; exact fun G' H' cls d rel' ev e => o G' σ H' cls d rel' (ev.weak fun _ _ => trivial) e
  | ok r s2 =>
    rw [q] at o
    intro G' H' v rel' ev rr
    exact putSlot_ok ⟨rel', ev, rel.since⟩ rr o
theorem js_setDc {i : Nat} {y : Str} {py : Pos} {kx vx tg iter : Expr} {ifs : List Expr} {scope : Scope} {own : List (Str × Nat)} {ws : List Nat} {pos spos : Pos} {fi : MS → Out MI} {ft : MG} {ftt : MS → Out Bool} {fk fe : ME} (hc : X.calm = true) (hN : X.N.Nodup) (hi : JI X R W tg iter fi) (ok : BlkOk X.N X.env.scope scope own)
    (hg : ∀ (s : Shared) (H : Hp) (C : Addr) (cl : List (Str × Addr)) (fp : List Addr), JG (X.blk s H scope (compEnvC scope cl C X.env) fp) R tg ws ft)
    (ht : ∀ (s : Shared) (H : Hp) (C : Addr) (cl : List (Str × Addr)) (fp : List Addr), JTs (X.blk s H scope (compEnvC scope cl C X.env) fp) R (fun _ _ _ _ => False) ifs ftt)
    (hk : ∀ (s : Shared) (H : Hp) (C : Addr) (cl : List (Str × Addr)) (fp : List Addr), JE (X.blk s H scope (compEnvC scope cl C X.env) fp) R (fun _ _ _ _ => False) kx fk)
    (he : ∀ (s : Shared) (H : Hp) (C : Addr) (cl : List (Str × Addr)) (fp : List Addr), JE (X.blk s H scope (compEnvC scope cl C X.env) fp) R (fun _ _ _ _ => False) vx fe)
    (hy : X.N[i]? = some y := by rfl) (hyl : X.env.scope.names.lookup y = some .local := by rfl) (hkd : X.env.scope.kind = .function := by rfl) (hln : (py.line == pos.line) = true := by rfl) (han : (scope.names.any fun (n, k) => n == y && (k == .local || k == .cell)) = false := by rfl)
    (hw : ∀ i ∈ ws, i ∈ own.map (·.2) := by decide) (hs : ∀ x, foldedSetIterable iter X.env x = pure x := by intro _; rfl) : JS X R W (.Assign [.Name y py] (.DictComp kx vx [⟨tg, iter, ifs, 0⟩] scope pos) spos) (mSet i (mDc (own.map (·.2)) fi ft ftt fk fe)) := fun hK F =>
  PS.imp (ps_setDc hc hN hy hyl (sw_trueD hkd hyl hln han) (hi hK F) ok (fun s H C cl fp => hg s H C cl fp hK F) (fun s H C cl fp => ht s H C cl fp hK F) (fun s H C cl fp => jv_of (hk s H C cl fp) hK F) (fun s H C cl fp => jv_of (he s H C cl fp) hK F) hs) fun D σ H h =>
    tdc_imp (F := F) (W := W) (R := R) hw (tX_of h)
theorem js_setLc {i : Nat} {y : Str} {py : Pos} {elt tg iter : Expr} {ifs : List Expr} {scope : Scope} {own : List (Str × Nat)} {ws : List Nat} {pos spos : Pos} {fi : MS → Out MI} {ft : MG} {ftt : MS → Out Bool} {fe : ME} (hc : X.calm = true) (hN : X.N.Nodup) (hi : JI X R W tg iter fi) (ok : BlkOk X.N X.env.scope scope own)
    (hg : ∀ (s : Shared) (H : Hp) (C : Addr) (cl : List (Str × Addr)) (fp : List Addr), JG (X.blk s H scope (compEnvC scope cl C X.env) fp) R tg ws ft)
    (ht : ∀ (s : Shared) (H : Hp) (C : Addr) (cl : List (Str × Addr)) (fp : List Addr), JTs (X.blk s H scope (compEnvC scope cl C X.env) fp) R (fun _ _ _ _ => False) ifs ftt)
    (he : ∀ (s : Shared) (H : Hp) (C : Addr) (cl : List (Str × Addr)) (fp : List Addr), JE (X.blk s H scope (compEnvC scope cl C X.env) fp) R (fun _ _ _ _ => False) elt fe)
    (hy : X.N[i]? = some y := by rfl) (hyl : X.env.scope.names.lookup y = some .local := by rfl) (hkd : X.env.scope.kind = .function := by rfl) (hln : (py.line == pos.line) = true := by rfl) (han : (scope.names.any fun (n, k) => n == y && (k == .local || k == .cell)) = false := by rfl)
    (hw : ∀ i ∈ ws, i ∈ own.map (·.2) := by decide) (hs : ∀ x, foldedSetIterable iter X.env x = pure x := by intro _; rfl) : JS X R W (.Assign [.Name y py] (.ListComp elt [⟨tg, iter, ifs, 0⟩] scope pos) spos) (mSet i (mLc (own.map (·.2)) fi ft ftt fe)) := fun hK F =>
  PS.imp (ps_setLc hc hN hy hyl (sw_true hkd hyl hln han) (hi hK F) ok (fun s H C cl fp => hg s H C cl fp hK F) (fun s H C cl fp => ht s H C cl fp hK F) (fun s H C cl fp => jv_of (he s H C cl fp) hK F) hs) fun D σ H h =>
    tlc_imp (F := F) (W := W) (R := R) hw (tX_of h)
end
end Mi
set_option Elab.async false
set_option linter.all false
set_option maxRecDepth 100000
set_option maxHeartbeats 4000000
namespace Mi
open PySem PySem.Spec PyProof.Rows L2
/-! list(d), max(xs), min(xs) -/
theorem VRs_keys {K : PySem.W.Frag} {G : Gh} {H : Hp} : ∀ dk : List (Key × V), VRs K G H (dk.map fun q => keyMV q.1) (dk.map fun q => kV q.1)
  | [] => VRs.nil (K := K) (G := G) (H := H)
  | (.inl i, v) :: r => VRs.cons (VR.mkInt (K := K) (G := G) (H := H)) (VRs_keys r)
  | (.inr x, v) :: r => VRs.cons (VR.mkStr' (K := K) (G := G) (H := H) rfl) (VRs_keys r)
def pListD (rs : List RV) (s : MS) : Out RV := match rs with
  | [r] => match dictOf s r with
    | some kvs => .ok (.own (.lst (kvs.map (·.1)))) s
    | none => .bad
  | _ => .bad
def rListDA : List V → Hp → VK → Prop := fun xs H Q => ∃ (a : Addr) (kvs : List (Key × V)), xs = [V.ref a] ∧ Rd H a (.dK kvs) ∧ ∀ p, H p = none → Q (.ref p) (upd H p (.lst (kvs.map fun kv => kV kv.1)))
section
variable {X : Cx} {R : RC} {W : WX} {pos pp : Pos} {e : Expr} {es : List Expr} {fs : MS → Out (List RV)}
theorem pr_listD : PrimC R rListDA pListD := fun {F W σ G H G2 H2 s2 rs vs Q} w rr o => by
  unfold pListD at o
  split at o
  · obtain ⟨v, t, rfl, r1, rfl⟩ := rr
    split at o
    · rename_i kvs hd
      obtain ⟨a, dk, rfl, ha, dd⟩ := dict_ok w.rel r1 hd
      exact ⟨a, dk, rfl, ha, newLst w (by rw [dd.1]; exact VRs_keys dk) o⟩
    · exact o.elim
  · exact o.elim
theorem je_listD (ha : JA X R W [e] fs) (hm : X.mg "list" = none) (hg : Gl X "list" := by rfl) (hc : X.calm = true := by rfl) (he : starEach [e] X.env = (false, eval e X.env) :: starEach [] X.env := by rfl) (hpl : (backTo pos (starEach [] X.env)).any (·.1) = false := by rfl) :
    JE X R W (.Call (.Name "list" pp) [e] [] pos) (mCallB pListD fs) := je_callTy (r := rListDA) (call_listD hc) (fun _ => pr_listD) hm boot_list' ha hg (he := he) (hpl := hpl)
def topL (f : Int → Int → Bool) : List Int → Option Int
  | [] => none
  | n :: r => match topL f r with | none => some n | some m => if f n m = true then some m else some n
theorem topL_max : ∀ {ns : List Int} {m : Int}, topL (fun a b => decide (a < b)) ns = some m → m ∈ ns ∧ ∀ y ∈ ns, y ≤ m
  | n :: r, m, h => by
    unfold topL at h
    cases e : topL (fun a b => decide (a < b)) r with
    | none =>
      rw [e] at h; cases h
      cases r with
      | nil => simp
      | cons k r => unfold topL at e; cases e2 : topL (fun a b => decide (a < b)) r <;> rw [e2] at e <;> simp at e; split at e <;> cases e
    | some q =>
      rw [e] at h
      obtain ⟨h1, h2⟩ := topL_max e
      simp only [decide_eq_true_eq] at h
      split at h
      · rename_i g; cases h
        exact ⟨List.mem_cons_of_mem _ h1, fun y hy => by
          rcases List.mem_cons.mp hy with rfl | hy
          · omega
          · exact h2 y hy⟩
      · rename_i g; cases h
        exact ⟨List.mem_cons_self .., fun y hy => by
          rcases List.mem_cons.mp hy with rfl | hy
          · omega
          · have := h2 y hy; omega⟩
theorem topL_min : ∀ {ns : List Int} {m : Int}, topL (fun a b => decide (b < a)) ns = some m → m ∈ ns ∧ ∀ y ∈ ns, m ≤ y
  | n :: r, m, h => by
    unfold topL at h
    cases e : topL (fun a b => decide (b < a)) r with
    | none =>
      rw [e] at h; cases h
      cases r with
      | nil => simp
      | cons k r => unfold topL at e; cases e2 : topL (fun a b => decide (b < a)) r <;> rw [e2] at e <;> simp at e; split at e <;> cases e
    | some q =>
      rw [e] at h
      obtain ⟨h1, h2⟩ := topL_min e
      simp only [decide_eq_true_eq] at h
      split at h
      · rename_i g; cases h
        exact ⟨List.mem_cons_of_mem _ h1, fun y hy => by
          rcases List.mem_cons.mp hy with rfl | hy
          · omega
          · exact h2 y hy⟩
      · rename_i g; cases h
        exact ⟨List.mem_cons_self .., fun y hy => by
          rcases List.mem_cons.mp hy with rfl | hy
          · omega
          · have := h2 y hy; omega⟩
def pTopL (f : Int → Int → Bool) (rs : List RV) (s : MS) : Out RV := match rs with
  | [r] => match ((lstOf s r).bind intsOf).bind (topL f) with
    | some m => .ok (.v (.int m)) s
    | none => .bad
  | _ => .bad
abbrev pMaxL := pTopL fun a b => decide (a < b)
abbrev pMinL := pTopL fun a b => decide (b < a)
theorem pr_maxL : PrimC R (rMax R.K) pMaxL := fun {F W σ G H G2 H2 s2 rs vs Q} w rr o => by
  unfold pMaxL pTopL at o
  split at o
  · obtain ⟨v, t, rfl, r1, rfl⟩ := rr
    split at o
    · rename_i m e
      simp only [Option.bind_eq_some_iff] at e
      obtain ⟨ns, ⟨xs, e1, e2⟩, e3⟩ := e
      obtain ⟨a, ws, rfl, sq, h⟩ := lst_ok w.rel r1 e1
      have := ints_ok h e2
      subst this
      obtain ⟨t1, t2⟩ := topL_max e3
      refine ⟨a, ns, rfl, sq, List.length_pos_of_mem t1, fun m' h1 h2 => ?_⟩
      have : m' = m := Int.le_antisymm (t2 m' h1) (h2 m t1)
      subst this
      exact finV w o (VR.mkInt (K := R.K) (G := G2) (H := H2))
    · exact o.elim
  · exact o.elim
theorem pr_minL : PrimC R (rMin R.K) pMinL := fun {F W σ G H G2 H2 s2 rs vs Q} w rr o => by
  unfold pMinL pTopL at o
  split at o
  · obtain ⟨v, t, rfl, r1, rfl⟩ := rr
    split at o
    · rename_i m e
      simp only [Option.bind_eq_some_iff] at e
      obtain ⟨ns, ⟨xs, e1, e2⟩, e3⟩ := e
      obtain ⟨a, ws, rfl, sq, h⟩ := lst_ok w.rel r1 e1
      have := ints_ok h e2
      subst this
      obtain ⟨t1, t2⟩ := topL_min e3
      refine ⟨a, ns, rfl, sq, List.length_pos_of_mem t1, fun m' h1 h2 => ?_⟩
      have : m' = m := Int.le_antisymm (h2 m t1) (t2 m' h1)
      subst this
      exact finV w o (VR.mkInt (K := R.K) (G := G2) (H := H2))
    · exact o.elim
  · exact o.elim
theorem je_maxL (ha : JA X R W (e :: es) fs) (hm : X.mg "max" = none) (he : starEach (e :: es) X.env = (false, eval e X.env) :: starEach es X.env := by rfl) (hpl : (backTo pos (starEach es X.env)).any (·.1) = false := by rfl) (hg : Gl X "max" := by rfl) (hc : X.calm = true := by rfl) :
    JE X R W (.Call (.Name "max" pp) (e :: es) [] pos) (mCallB pMaxL fs) := je_callB (cr_max hc) (fun h => h ▸ pr_maxL) hm boot_max ha hg (he := he) (hpl := hpl)
theorem je_minL (ha : JA X R W (e :: es) fs) (hm : X.mg "min" = none) (he : starEach (e :: es) X.env = (false, eval e X.env) :: starEach es X.env := by rfl) (hpl : (backTo pos (starEach es X.env)).any (·.1) = false := by rfl) (hg : Gl X "min" := by rfl) (hc : X.calm = true := by rfl) :
    JE X R W (.Call (.Name "min" pp) (e :: es) [] pos) (mCallB pMinL fs) := je_callB (cr_min hc) (fun h => h ▸ pr_minL) hm boot_min ha hg (he := he) (hpl := hpl)
/-! xs.insert(i, y) -/
def lInsert (r : RV) (rs : List MV) (s : MS) : Out RV := match rs, place s r with
  | [.int i, x], some (.lst xs) => if xs.length < sizeLine ∧ 0 ≤ i ∧ i < 2 ^ 63 then .ok (.v .non) (putC s r (.lst (xs.take i.toNat ++ [x] ++ xs.drop i.toNat))) else .bad
  | _, _ => .bad
theorem pr_insert : PrimL R (fun x vs H Q => ∃ (l : Addr) (xs : List V) (i : Int) (y : V), x = .ref l ∧ vs = [.int i, y] ∧ H l = some (.lst xs) ∧ xs.length < sizeLine ∧ 0 ≤ i ∧ i < 2 ^ 63 ∧
    Q .non (upd H l (.lst (xs.take i.toNat ++ [y] ++ xs.drop i.toNat)))) lInsert := fun {F W σ G H G2 H2 s2 r0 rs v vs Q} w rr rs o => by
  unfold lInsert at o
  split at o
  · rename_i i x xs hp
    obtain ⟨u, t, rfl, p, q⟩ := rs.inv
    obtain ⟨u2, t2, rfl, p2, q2⟩ := q.inv
    unfold VRs at q2; subst q2
    cases VR.int p
    split at o
    · rename_i hz
      obtain ⟨a, vs, rfl, ha, hv, k⟩ := put_lst w rr hp o
      exact ⟨a, vs, i, u2, rfl, rfl, ha, by rw [← hv.length]; exact hz.1, hz.2.1, hz.2.2, k _ _ (((hv.take _).append (.cons p2 (VRs.nil (K := R.K)))).append (hv.drop _)) (VR.mkNon (K := R.K))⟩
    · exact o.elim
  · exact o.elim
theorem je_insert {o e e2 : Expr} {apos cpos : Pos} {fo : ME} {fa : MS → Out (List MV)} (ho : JE X R W o fo) (ha : JAs X R W [e, e2] fa) (hbase : attributeBase o "insert" X.env (eval o X.env) = eval o X.env := by rfl)
    (hfew : ((backTo cpos (starEach [e, e2] X.env)).all (fun x => !x.1) && (backToKw cpos (keywordEach [] X.env)).all (fun x => x.1.isSome) && decide ([e, e2].length + ([] : List Keyword).length + (if ([] : List Keyword).isEmpty then 0 else 1) < 30)) = true := by rfl)
    (hline : (apos.endLine == cpos.line) = true := by rfl) (hs : starEach [e, e2] X.env = (false, eval e X.env) :: starEach [e2] X.env := by rfl) (hpl : (backTo cpos (starEach [e2] X.env)).any (·.1) = false := by rfl) : JE X R W (.Call (.Attribute o "insert" apos) [e, e2] [] cpos) (mLM lInsert fo fa) :=
  je_lm PySem.F.slot_list_insert PySem.F.type_list_insert mt_insert (fun _ => pr_insert) ho ha hbase hfew hline hs hpl
end
end Mi
set_option Elab.async false
set_option linter.all false
set_option maxRecDepth 100000
set_option maxHeartbeats 4000000
namespace Mi
open PySem PySem.Spec PyProof.Rows L2
theorem exK_ok {P : Program} {w : World} {H : Hp} {h : Heap} {a : Addr} {cls : Value} {d : Option Addr} {oe : Obj} {vs : Array Value} (e : h.get? a = some oe) (z : Zc cls d oe) (q : oe.data = .fields vs) : ObjOk P w H h a (ExK cls d a) :=
  ⟨⟨oe, vs, e, z, q⟩, ⟨oe, e⟩, fun _ _ ⟨o, v, q, r⟩ k => ⟨o, v, k o q, r⟩⟩
/-- what 'except x as n' wishes, the exception tracked -/
def wAsT (K : PySem.W.Frag) (c : Value) (i : Nat) (ts : TS) (Wout : WX) (D : Ends) : WX := fun cls d σ H =>
  ∃ b, PySem.W.exmOne K cls c = some b ∧ (b = true → ∀ a, H a = none → ts { nx := fun σ' H' => D.nx (σ'.set i none) H', rt := D.rt, bk := fun σ' H' => D.bk (σ'.set i none) H', ct := fun σ' H' => D.ct (σ'.set i none) H' } (σ.set i (some (.ref a))) (upd H a (ExK cls d a))) ∧
    (b = false → Wout cls d σ H)
section
variable {X : Cx} {x n : Str} {c : Value} {i : Nat} {body suite : List Stmt} {b₀ : Stmt} {np pos pos' : Pos} {tb : WX → TS} {ts : TS} {Wout : WX}
theorem unsuiteT {pins : List (Addr × Obj)} {σ : L2.St} {H : Hp} {s : Shared} {a : Addr} {pn' : List (Addr × Obj)} (I : Inv (X.suite a (X.pn ++ pins)) pn' σ H s) (ok : X.Ok) : Inv X pins σ H s :=
  ⟨ok, I.os, I.bare, I.base, I.loc, I.cell, I.free, I.freeC, fun p hp => I.pin p (List.mem_append_left _ hp), I.hok, I.len⟩
theorem suiteT {pins : List (Addr × Obj)} {σ : L2.St} {H : Hp} {s : Shared} {a : Addr} (I : Inv X pins σ H s) : Inv (X.suite a (X.pn ++ pins)) [] σ H s :=
  ⟨I.ok.suite _ _, I.os, I.bare, I.base, I.loc, I.cell, I.free, I.freeC, fun p hp => I.pin p (by rw [List.append_nil] at hp; exact hp), I.hok, I.len⟩
theorem ps_try_asT (hs : X.stack = X.env :: X.outer) (hf : X.env.frame = some X.env.locals) (hN : X.N.Nodup) (hi : X.N[i]? = some n) (hln : X.env.kindOf n = some .local) (hc : Names X x c) (tk : Takes X Wout)
    (hb : ∀ (W : WX) (pn : List (Addr × Obj)) (xe : Value → Shared → Prop), Takes (X.tr pn xe) W → PassesOwn (model X.prog X.w) X.A X.env xe → PSs (X.tr pn xe) body (tb W))
    (hsu : ∀ (a : Addr) (pn : List (Addr × Obj)), PSs (X.suite a pn) (b₀ :: suite) ts) :
    PS X (.Try body [.ExceptHandler (some (.Name x np)) (some n) (b₀ :: suite) pos'] [] [] pos) (fun D σ H => tb (wAsT X.K c i ts Wout D) D σ H) := by
  refine ⟨fun pins s σ H D I h => ?_⟩
  have ok := I.ok
  have hfr : X.A.frames = some (X.env :: X.outer) := by rw [ok.frames, hs]
  have hloc : Loc X.env.scope n := .inl hln
  refine wpAny_Try_except ?_
  refine wpAny_mono ((hb (wAsT X.K c i ts Wout D) (X.pn ++ pins) (fun e s₁ => wpAny (model X.prog X.w) X.A (noteFrame e X.env) (fun _ s₂ => wpAny (model X.prog X.w) X.A (setFlight e none) (fun _ s₃ =>
    wpAny (model X.prog X.w) X.A (handleBy e X.env [.ExceptHandler (some (.Name x np)) (some n) (b₀ :: suite) pos']) (SP X pins D) X.xe s₃) X.xe s₂) X.xe s₁) (fun u s' xx => ?_) PassesOwn.looking).run [] s σ H D (I.toTry _) h) (fun f s1 hsp => ?_) (fun e s1 he => he)
  · obtain ⟨a, B, sI, pins', σ', H', cls, d, rfl, J', nb, up, sky, na, os, ag, b, hb1, hyes, hno⟩ := xx
    have J : Inv X pins σ' H' sI := J'.ofTry ok
    have sky' : Sky B (X.env :: X.outer) a (Zc cls d) X.env.locals s'.heap := by rw [← hs]; exact sky
    show wpAny (model X.prog X.w) X.A (noteFrame (.ref a) X.env) _ _ _
    refine Sky.land Zc.steady hfr hf sky' fun h3 fl3 up3 => ?_
    have J3 : Inv X pins σ' H' { s' with heap := h3 } := J.landed nb fl3.1 (up.trans up3) os ag
    obtain ⟨oe3, vs3, he3, hz3, hd3⟩ := fl3.there
    have notFr : ∀ {h : Heap} {o : Obj} {vs : Array Value}, h.FunFrames B (X.env :: X.outer) → h.get? a = some o → o.data = .fields vs → a ∉ frs (X.env :: X.outer) := fun {h o vs} ff e dd hm => by
      obtain ⟨_, o', e', hnf⟩ := ff.mem hm
      rw [e] at e'; cases e'
      exact hnf _ dd
    have nfr := notFr fl3.2.2.1 he3 hd3
    have nL : a ≠ X.env.locals := fun z => nfr (List.mem_filterMap.mpr ⟨X.env, List.mem_cons_self, by rw [hf, z]⟩)
    have nF : a ∉ X.fs := fun hm => by
      obtain ⟨e, he, q⟩ := List.mem_filterMap.mp hm
      exact nfr (List.mem_filterMap.mpr ⟨e, List.mem_cons_of_mem _ he, q⟩)
    have S3 := J3.suite he3 hd3 na nL nF
    refine wpAny_handleBy_cons (codeAny_handlers_test ?_) (by intro q; cases q)
    have LT : PySem.W.Looks (model X.prog X.w) h3 (typeOf (.ref a)) cls := fun A Q E s k q => wpAny_typeOf_ref (k _ _ he3) (by rw [hz3.1]; exact q)
    have LM := PySem.W.exm_one (M := model X.prog X.w) (J3.kIn) LT hb1
    have test : ∀ {Q : Value → Shared → Prop} {E : Value → Shared → Prop}, Q c { s' with heap := h3 } → wpAny (model X.prog X.w) (X.A.mark (some (.ref a))) (eval (.Name x np) X.env) Q E { s' with heap := h3 } := fun {Q E} q => by
      obtain ⟨hg, hdbg, hm | ⟨hm, hv, hnn⟩⟩ := hc
      · exact ld_glob (X := X.suite a ((a, oe3) :: (X.pn ++ pins))) S3 hg hm q hdbg
      · exact ld_blt (X := X.suite a ((a, oe3) :: (X.pn ++ pins))) S3 hg hm hv q hnn hdbg
    refine test (LM.here ?_)
    cases b with
    | true =>
      refine codeAny_handlers_suite_as ?_
      refine HandSPX.lands_againZ fl3 fun h4 fl4 up4 => ?_
      obtain ⟨oe4, vs4, he4, hz4, hd4⟩ := fl4.there
      obtain ⟨G, g1, g2⟩ := restrict h4 fun b => decide (b ≠ a)
      have gk : ∀ b o, b ≠ a → h4.get? b = some o → G.get? b = some o := fun b o hb e => by rw [g1 b (decide_eq_true hb)]; exact e
      have ga : G.get? a = none := g2 a (decide_eq_false fun z => z rfl)
      have gs : ∀ b o, G.get? b = some o → h4.get? b = some o := fun b o e => by
        by_cases hb : b = a
        · rw [hb, ga] at e; cases e
        · rw [← g1 b (decide_eq_true hb)]; exact e
      have sa : sI.heap.get? a = none := by
        cases q : sI.heap.get? a with
        | none => rfl
        | some o =>
          have z := nb a o q (by rw [hs]; exact nfr)
          rw [fl4.2.1] at z; cases z
      have stG : B.StaysIn G := fun b o e => gk b o (fun z => by rw [z, fl4.2.1] at e; cases e) (fl4.1 b o e)
      have up5 : sI.heap.UpToSlots h4 := (up.trans up3).trans up4
      have upG : sI.heap.UpToSlots G := fun b o e hn => by
        have hba : b ≠ a := fun z => by rw [z, sa] at e; cases e
        obtain ⟨sl, q⟩ := up5 b o e hn
        exact ⟨sl, gk b _ hba q⟩
      have JG : Inv X pins σ' H' { s' with heap := G } := J.landed nb stG upG os ag
      have JT : Inv X pins σ' (upd H' a (ExK cls d a)) { s' with heap := h4 } := JG.laidN (h' := h4) (t' := s'.toks) (fun b u e => gs b u e) ga na (exK_ok he4 hz4 hd4)
      refine store_ok (X := X.suite a (X.pn ++ pins)) (v := .ref a) (suiteT JT) hN hi hloc rfl (fun s5 S5 => ?_) (.inr hln)
      refine wpAny_mono ((hsu a (X.pn ++ pins)).run [] s5 _ _ _ S5 (hyes rfl a na)) (fun f s6 hsp => ?_) (fun _ _ z => False.elim z)
      have end_ : ∀ {σ6 : L2.St} {H6 : Hp} {Q : Shared → Prop}, Inv (X.suite a (X.pn ++ pins)) [] σ6 H6 s6 → (∀ s7, Inv X pins (σ6.set i none) H6 s7 → Q s7) →
          wpAny (model X.prog X.w) X.A (do bindName X.env n .none; unbindBehindTheSuite X.env n pos') (fun _ s7 => Q s7) X.xe s6 := fun {σ6 H6 Q} S6 hq => gone_ok (unsuiteT S6 ok) hN hi hln hq
      cases f with
      | next =>
        obtain ⟨σ6, H6, S6, q6⟩ := hsp
        exact end_ S6 fun s7 J7 => ⟨_, _, J7, q6⟩
      | brk =>
        obtain ⟨σ6, H6, S6, q6⟩ := hsp
        exact end_ S6 fun s7 J7 => ⟨_, _, J7, q6⟩
      | cont =>
        obtain ⟨σ6, H6, S6, q6⟩ := hsp
        exact end_ S6 fun s7 J7 => ⟨_, _, J7, q6⟩
      | ret u =>
        obtain ⟨v6, σ6, H6, S6, r6, q6⟩ := hsp
        exact end_ S6 fun s7 J7 => ⟨_, _, _, J7, r6, q6⟩
    | false =>
      show wpAny _ X.A (handleBy (.ref a) X.env []) _ _ _
      refine wpAny_handleBy_nil ?_
      obtain ⟨k1, k2, k3, oe, vs, T, oT, ts', he, hz, hd, h1, hr⟩ := id fl3
      unfold PySem.passOn
      refine wpAny_bind (wpAny_field he hd h1 ?_)
      rw [if_neg (show ¬ ((Value.ref T == Value.none) = true) from by simp)]
      have fin : wpAny (model X.prog X.w) X.A (setFlight (.ref a) X.env.frame) (fun _ s4 => wpAny (model X.prog X.w) X.A (throw (.ref a) : Sem Flow) (SP X pins D) X.xe s4) X.xe { s' with heap := h3 } := by
        rw [hf]
        refine HandSPX.setFlight_upZ fl3 fun h4 hh4 up4 => wpAny_throw (tk _ _ ?_)
        exact ⟨a, B, sI, pins, σ', H', cls, d, rfl, J, nb, (up.trans up3).trans up4, .inr (.inr (by rw [hs]; exact hh4)), na, os, ag, hno rfl⟩
      first
        | exact wpAny_bind (wpAny_pure (wpAny_bind fin))
        | exact wpAny_bind fin
  · cases f with
    | next =>
      obtain ⟨σ', H', J', q⟩ := hsp
      exact wpAny_execs_nil ⟨σ', H', J'.ofTry ok, q⟩
    | brk =>
      obtain ⟨σ', H', J', q⟩ := hsp
      exact ⟨σ', H', J'.ofTry ok, q⟩
    | cont =>
      obtain ⟨σ', H', J', q⟩ := hsp
      exact ⟨σ', H', J'.ofTry ok, q⟩
    | ret u =>
      obtain ⟨v, σ', H', J', r, q⟩ := hsp
      exact ⟨v, σ', H', J'.ofTry ok, r, q⟩
end
/-! isinstance(e, C) of a caught exception that is tracked -/
def rIsK (K : PySem.W.Frag) : List V → Hp → VK → Prop := fun xs H Q => ∃ (a D : Addr) (c : V) (cv : Value) (b : Bool), xs = [.ref a, c] ∧ H a = some (ExK (.ref D) none a) ∧ ExcC K D ∧ (∀ u, RelV c u → u = cv) ∧ PySem.W.kitOne K (.ref D) cv = some b ∧ Q (.bl b) H
theorem call_isK {X : Cx} : CallR X (.builtin "isinstance") (rIsK X.K) := by
  intro pins s σ H xs us Q I r h
  obtain ⟨a, D, c, cv, b, rfl, ha, C, hcv, e, q⟩ := h
  cases r with
  | cons rx rr =>
    cases rr with
    | cons rt rr =>
      cases rr
      cases rx
      have ec := hcv _ rt
      subst ec
      obtain ⟨⟨oe, vs, hget, hz, hv⟩, _⟩ := I.hok a _ ha
      have J : PySem.W.InstAt s.heap a oe D none := by
        obtain ⟨oc, od, oda, osl⟩ := oe
        obtain ⟨h1, h2⟩ := hz
        dsimp only at h1 h2 hv
        subst h1 h2 hv
        exact ⟨hget, rfl, rfl, trivial⟩
      exact PySem.W.kia_one (PySem.W.handS_kitx_exc C.hg C.hk C.hs C.hd C.ha C.hn C.ht C.hm) I.kIn J e (fun z => nomatch z) fun tk => ⟨.bl b, H, I.kept (t' := tk) fun _ _ z => z, rfl, q⟩
/-! raise C(): C's own __init__ sets no field -/
section
variable {X : Cx}
theorem mk_end1 {pins : List (Addr × Obj)} {σ : L2.St} {H1 H2 : Hp} {hp hp2 h2 : Heap} {g1 g2 : Array GenState} {d1 d2 : Drawn} {t1 t2 : Nat} {os1 os2 : OsState} {a C : Addr} (I1 : Inv X pins σ H1 ⟨hp, g1, d1, t1, os1⟩)
    (ha : hp.objs.size ≤ a) (k : ∀ b o, hp.get? b = some o → hp2.get? b = some o) (un : Un (frs X.stack) [] (upd H1 a (exo a C none)) H2 hp2 h2) (hok : HOk X.prog X.w H2 h2) (ho : os2 = os1) (hb : AllBare g2)
    (ea : H2 a = some (exo a C none)) :
    ∃ (t0 : Addr) (G : Heap), Inv X pins σ (del H2 a) ⟨G, g2, d2, t2, os2⟩ ∧ (∀ b o, G.get? b = some o → h2.get? b = some o) ∧ G.get? a = none ∧
      h2.get? a = some ({ cls := .ref C, dict := none, data := .fields #[.ref t0, .none, .none, .none, .bool false, .none] } : Obj) ∧ del H2 a a = none := by
  obtain ⟨t0, hoe⟩ := exo_at hok ea
  have hn : H1 a = none := I1.hok.fresh ha
  obtain ⟨G, g1', g2'⟩ := restrict h2 fun b => decide (b ≠ a)
  have gk : ∀ b, b ≠ a → G.get? b = h2.get? b := fun b hb => g1' b (decide_eq_true hb)
  have ge : G.get? a = none := g2' a (by simp)
  have nha : ∀ {b : Addr} {o : Obj}, hp.get? b = some o → b ≠ a := fun {b o} z => Nat.ne_of_lt (Nat.lt_of_lt_of_le (Heap.lt_size z) ha)
  have up : ∀ {b : Addr}, b ≠ a → H1 b = none → upd H1 a (exo a C none) b = none := fun {b} hb n => by rw [upd_ne hb]; exact n
  have U : Un (frs X.stack) [] H1 (del H2 a) hp G := {
    keep := fun b o z n hf hx => by
      rw [gk b (nha z)]
      exact un.keep b o (k b o z) (up (nha z) n) hf hx
    slot := fun b o z n hf hx => by
      rw [gk b (nha z)]
      exact un.slot b o (k b o z) (up (nha z) n) hf hx
    free := fun b o z n hx => by
      rw [del_ne (nha z)]
      exact un.free b o (k b o z) (up (nha z) n) hx
    there := fun b o z hx => by
      rw [gk b (nha z)]
      exact un.there b o (k b o z) hx
    tups := fun b xs z => by
      rw [del_ne (ne_of_none z hn)]
      exact un.tups b xs (by rw [upd_ne (ne_of_none z hn)]; exact z)
    frzs := fun b o v z => by
      rw [del_ne (ne_of_none z hn)]
      exact un.frzs b o v (by rw [upd_ne (ne_of_none z hn)]; exact z)
    tbls := fun b ps z => by
      rw [del_ne (ne_of_none z hn)]
      exact un.tbls b ps (by rw [upd_ne (ne_of_none z hn)]; exact z) }
  have hok3 : HOk X.prog X.w (del H2 a) G := fun b o z => by
    have hba : b ≠ a := fun e => by
      rw [e, del_same] at z
      cases z
    rw [del_ne hba] at z
    have noa : ∀ {c : Addr}, H2 c = some (.own b) → c ≠ a := fun {c} hc => at_ne ea hc exo_own
    exact (hok b o z).stay (fun c v hc y => by
        have hca : c ≠ a := by
          rcases hc with hc | hc
          · rw [hc]
            exact hba
          · exact noa hc
        rw [gk c hca]
        exact y)
      (fun c hc => by rw [del_ne (noa hc)]; exact hc) (fun c xs hc => by rw [del_ne (at_ne ea hc exo_tup)]; exact hc)
  have J : Inv X pins σ (del H2 a) ⟨G, g2, d2, t2, os2⟩ := I1.call' (ch := []) ho U hok3 hb (fun b z => absurd z (by simp))
  refine ⟨t0, G, J, fun b o z => ?_, ge, hoe, del_same⟩
  by_cases hba : b = a
  · rw [hba, ge] at z
    cases z
  · exact (gk b hba).symm.trans z
/-- what __init__ keeps -/
def spI (C : Addr) : Sp := fun vs H Q _ => ∃ a, vs = [.ref a] ∧ H a = some (exo a C none) ∧ Q .non H
theorem pmk_oex0 {x : Str} {C fI : Addr} {k : Nat} {fd : FuncData} {ps : List Str} {p pos : Pos} (T : OexC X.K C) (iC : PySem.W.findIn X.K (.ref C) "__init__" = some (some (.ref fI))) (tI : PySem.W.typeIn X.K (.ref fI) = some (.type "function"))
    (F1 : Mi.FnOk X.prog X.w X.K X.mg X.base (L2.CX X.prog X.w) k fI fd ps (spI C)) (hr : Mi.Room (k + 1) X.A) (hb : Binds X.K fd ps []) (hg : Gl X x) (hm : X.mg x = some (.ref C))
    (hdb : (x == ("__debug__" : Str)) = false := by decide) :
    PMk X (.Call (.Name x p) [] [] pos) (fun σ H Q => Q (.ref C) none H) := by
  intro pins s σ H Q I q
  obtain ⟨nm, qq, N, bs, bm, sn, sub, ab, col, dd, k0, k1, k2, k3, k5, hC, hbm⟩ := T.cls
  refine wpAny_Call_Name_kw (ld_glob I hg hm ?_ hdb)
  refine PySem.W.callWith_K0 I.kIn T.kC ?_
  show wpAny _ _ (call (.ref C) []) _ _ _
  obtain ⟨hp, g, dr, tk, os⟩ := s
  have hsz : hp.objs.size ≤ hp.objs.size + 1 := Nat.le_succ _
  have hn : H (hp.objs.size + 1) = none := I.hok.fresh hsz
  have kk : ∀ b o, hp.get? b = some o → ((hp.push (PySem.W.kdv_tup [])).push (PySem.HandSPX.excO C hp.objs.size)).get? b = some o := fun b o e => Heap.get?_push_of_some _ (Heap.get?_push_of_some _ e)
  have hget : ((hp.push (PySem.W.kdv_tup [])).push (PySem.HandSPX.excO C hp.objs.size)).get? (hp.objs.size + 1) = some (PySem.HandSPX.excO C hp.objs.size) := by heap_get
  have I2 : Inv X pins σ (upd H (hp.objs.size + 1) (exo (hp.objs.size + 1) C none)) ⟨(hp.push (PySem.W.kdv_tup [])).push (PySem.HandSPX.excO C hp.objs.size), g, dr, tk, os⟩ :=
    I.laid (t' := tk) (a := hp.objs.size + 1) (o := exo (hp.objs.size + 1) C none) (h' := (hp.push (PySem.W.kdv_tup [])).push (PySem.HandSPX.excO C hp.objs.size)) kk hsz (exo_ok hget)
  have r2 : Vals [V.ref (hp.objs.size + 1)] [Value.ref (hp.objs.size + 1)] := .cons rfl .nil
  have hq : spI C [.ref (hp.objs.size + 1)] (upd H (hp.objs.size + 1) (exo (hp.objs.size + 1) C none)) (fun v H2 => v = .non ∧ H2 = upd H (hp.objs.size + 1) (exo (hp.objs.size + 1) C none)) (fun _ _ _ => False) := ⟨_, rfl, upd_same, rfl, rfl⟩
  have hl : ([Value.ref (hp.objs.size + 1)] ++ ([] : List Value)).length = ps.length := by
    have e := r2.length
    rw [F1.len _ _ _ _ hq] at e
    rw [List.append_nil]
    exact e.symm
  have hb2 := hb _ [Value.ref (hp.objs.size + 1)] I2.kIn hl
  rw [List.append_nil] at hb2
  refine wpAny_call (PySem.HandSPX.call_own F.excBase_ValueError (fun Y => PySem.HandSPX.refsVE_contains Y bm hbm) (I.kIn _ _ hC) (PySem.W.looks_findIn I.kIn iC) (fun self => PySem.W.bind_fn I.kIn self tI) (by show 0 ≤ sizeLine; omega)
    (codeAny_mono (F1.run _ X.stack _ _ ⟨[Value.ref (hp.objs.size + 1)], []⟩ [Value.ref (hp.objs.size + 1)] _ _ (fun _ _ _ => False) (hr.make C [] []) (I2.env0.make C [] []) hb2 r2 hq) fun r s' hq' => ?_))
  cases r with
  | error er => exact passL pins σ _ _ er s' I2 hq'
  | ok fl =>
    cases fl with
    | ret u =>
      obtain ⟨v, H2, os2, bare2, un2, hok2, rv, ev, eH⟩ := hq'
      subst ev eH
      obtain ⟨h2, g2, d2, t2, os'⟩ := s'
      obtain ⟨t0, G, J, kG, ge, hoe, na⟩ := mk_end1 (d2 := d2) (t2 := t2) I hsz kk un2 hok2 os2 bare2 upd_same
      have eH : del (upd H (hp.objs.size + 1) (exo (hp.objs.size + 1) C none)) (hp.objs.size + 1) = H := by
        funext b
        by_cases hba : b = hp.objs.size + 1
        · rw [hba, del_same, hn]
        · rw [del_ne hba, upd_ne hba]
      rw [eH] at J na
      exact ⟨rv, ⟨_, _, _, ⟨G, g2, d2, t2, os'⟩, _, .ref C, none, rfl, J, kG, ge, hoe, ⟨rfl, rfl⟩, rfl, rfl, na, rfl, bare2, raises_own T.exC T.tyC, q⟩⟩
    | next => exact False.elim hq'
    | brk => exact False.elim hq'
    | cont => exact False.elim hq'
end
end Mi
set_option Elab.async false
set_option linter.all false
set_option maxRecDepth 100000
set_option maxHeartbeats 4000000
namespace Mi
open PySem PySem.Spec PyProof.Rows L2
section
variable {X : Cx} {R : RC} {W : WX} {F : FI} {σ : L2.St} {G : Gh} {H : Hp} {s : MS}
/-! raise C() -/
def mRaise (c : Nat) : MSt := fun s => .exc c [] s
theorem js_raise0 {x : Str} {fI : Addr} {k : Nat} {fd : FuncData} {ps : List Str} {p pos pos2 : Pos} (c : Nat) (hnf : R.exF c = []) (T : OexC X.K (R.exA c)) (iC : PySem.W.findIn X.K (.ref (R.exA c)) "__init__" = some (some (.ref fI))) (tI : PySem.W.typeIn X.K (.ref fI) = some (.type "function"))
    (F1 : Mi.FnOk X.prog X.w X.K X.mg X.base (L2.CX X.prog X.w) k fI fd ps (spI (R.exA c))) (tk : Takes X W) (hr : Mi.Room (k + 1) X.A) (hb : Binds X.K fd ps []) (hm : X.mg x = some (.ref (R.exA c))) (hg : Gl X x := by rfl) (hdb : (x == ("__debug__" : Str)) = false := by decide) (hc : X.calm = true := by rfl) :
    JS X R W (.Raise (some (.Call (.Name x p) [] [] pos)) none pos2) (mRaise c) := fun hK F =>
  PS.imp (ps_raise hc tk (pmk_oex0 T iC tI F1 hr hb hg hm hdb)) fun D σ H ⟨G, s, rel, o⟩ => o G σ H (.ref (R.exA c)) none rel .refl ⟨rfl, by rw [hnf]; rfl, fun _ => rfl, fun h => absurd rfl h⟩
/-! try: .. / except C as e: x = e -/
def mTryE (cm : Nat → Option Bool) (i j : Nat) (fb : MSt) : MSt := fun s => match fb s with
  | .exc c xs s1 => (match cm c with
    | some true => if xs = [] ∧ i < s1.env.length ∧ j < s1.env.length then .ok .next { s1 with hp := s1.hp ++ [.exc c], env := ((s1.env.set i (some (.v (.ref s1.hp.length)))).set j (some (.v (.ref s1.hp.length)))).set i none } else .bad
    | some false => .exc c xs s1
    | none => .bad)
  | o => o
theorem Rel.unset {i : Nat} (h : Rel R F G s σ H) : Rel R F G { s with env := s.env.set i none } (σ.set i none) H := by
  refine ⟨h.hp, by simpa using h.len, fun j sv q => ?_, h.since, h.base, h.le, h.ent⟩
  by_cases e : i = j
  · subst e
    have : (s.env.set i none)[i]? = some (some sv) := q
    rw [List.getElem?_set_self'] at this
    cases z : s.env[i]? <;> rw [z] at this <;> cases this
  · have q : (s.env.set i none)[j]? = some (some sv) := q
    rw [List.getElem?_set_ne e] at q
    obtain ⟨v, h1, h2⟩ := h.env j sv q
    exact ⟨v, by rw [List.getElem?_set_ne e]; exact h1, h2⟩
theorem js_try {n x y : Str} {i j : Nat} {cv : Value} {cm : Nat → Option Bool} {body : List Stmt} {fb : MSt} {np py pn pa pos pos' : Pos} (hN : X.N.Nodup) (hc : Names X x cv) (tk : Takes X W) (hi : X.N[i]? = some n) (hj : X.N[j]? = some y)
    (hcm : X.K = R.K → ∀ c b, cm c = some b → PySem.W.exmOne X.K (.ref (R.exA c)) cv = some b)
    (hb : ∀ (W' : WX) (pn : List (Addr × Obj)) (xe : Value → Shared → Prop), Takes (X.tr pn xe) W' → PassesOwn (model X.prog X.w) X.A X.env xe → JB (X.tr pn xe) R W' body fb)
    (hs : X.stack = X.env :: X.outer := by rfl) (hf : X.env.frame = some X.env.locals := by rfl) (hln : X.env.kindOf n = some .local := by rfl)
    (hv : Vis X.env.scope n := by exact .inl rfl) (hly : Loc X.env.scope y := by first | exact Or.inl rfl | exact Or.inr rfl)
    (hsw : ∀ (a : Addr) (pnn : List (Addr × Obj)), swapsWith (.Name n pn) (some (.Name y py)) pa.line (X.suite a pnn).env = pure false := by intro _ _; rfl) (hfy : X.fn y = true ∨ X.env.scope.names.lookup y = some .local := by first | exact .inl rfl | exact .inr rfl)
    (hdn : (n == ("__debug__" : Str)) = false := by decide) (hcn : (n == ("__classdict__" : Str)) = false := by decide) :
    JS X R W (.Try body [.ExceptHandler (some (.Name x np)) (some n) [.Assign [.Name y py] (.Name n pn) pa] pos'] [] [] pos) (mTryE cm i j fb) := fun hK F =>
  PS.imp (ps_try_asT hs hf hN hi hln hc tk (tb := fun W' => tS R F W' fb) (ts := tAsg (tVar i) (gName j)) (fun W' pnn xe t p => hb W' pnn xe t p hK F)
    (fun a pnn => pss_one (ps_set (X := X.suite a pnn) hN hj hly (pe_var (X := X.suite a pnn) hi hv hdn hcn) (hsw a pnn) hfy))) fun D σ H ⟨G, s, rel, o⟩ => by
    refine ⟨G, s, rel, ?_⟩
    have o : OutS R F W G H (mTryE cm i j fb s) D := o
    unfold mTryE at o
    cases q : fb s with
    | ok fl s2 =>
      rw [q] at o
      cases fl with
      | next => exact o
      | ret r => exact o
    | bad => rw [q] at o; exact o.elim
    | exc c xs s1 =>
      rw [q] at o
      simp only at o
      intro G' σ' H' cls d rel' ev ⟨e1, e2, e3, e4⟩
      subst e1
      cases qc : cm c with
      | none => rw [qc] at o; exact o.elim
      | some b =>
        rw [qc] at o
        refine ⟨b, hcm hK.symm c b qc, fun hb a ha => ?_, fun hb => ?_⟩
        · subst hb
          simp only at o
          split at o
          · rename_i hh
            obtain ⟨rfl, hi', hj'⟩ := hh
            rw [e3 rfl]
            have hiσ : i < σ'.length := by rw [← rel'.len]; exact hi'
            have g : G' a = none := rel'.noRole ha
            have rel1 := rel'.alloc (o := ExK (.ref (R.exA c)) none a) ha
            have hH : H a = none := fresh_back ev ha
            have h0 : F.H0 a = none := fresh_back rel'.since ha
            have m : Mo G' (upd H' a (ExK (.ref (R.exA c)) none a)) (setG G' a (some (.obj s1.hp.length))) (upd H' a (ExK (.ref (R.exA c)) none a)) := Mo.setr g
            have rel2 : Rel R F (setG G' a (some (.obj s1.hp.length))) { s1 with hp := s1.hp ++ [.exc c] } σ' (upd H' a (ExK (.ref (R.exA c)) none a)) := by
              refine ⟨rel1.hp.push g ⟨_, upd_same⟩ upd_same, rel1.len, fun k sv q2 => ?_, rel1.since.setr h0 g, rel1.base, Nat.le_trans rel1.le (by simp), rel1.ent⟩
              obtain ⟨v, q1, k2⟩ := rel1.env k sv q2
              refine ⟨v, q1, ?_⟩
              cases sv with
              | v x => exact VR.mono m x v k2
              | own c =>
                obtain ⟨b, q3, gb, k3⟩ := k2
                exact ⟨b, q3, by rw [setG_ne fun z => by rw [z, g] at gb; cases gb]; exact gb, k3.mono m rfl⟩
            have vr : VR R.K (setG G' a (some (.obj s1.hp.length))) (upd H' a (ExK (.ref (R.exA c)) none a)) (.ref s1.hp.length) (.ref a) := by
              unfold VR
              exact ⟨a, rfl, setG_same⟩
            have rel3 := rel2.setSlot (i := i) (sv := some (.v (.ref s1.hp.length))) hi' (fun x e => by cases e; exact vr)
            have rel4 := rel3.setSlot (i := j) (sv := some (.v (.ref s1.hp.length))) (by simpa using hj') (fun x e => by cases e; exact vr)
            have rel5 := rel4.unset (i := i)
            exact ⟨.ref a, List.getElem?_set_self hiσ, o _ _ _ rel5 ((ev.updNew hH g).setr hH g)⟩
          · exact o.elim
        · subst hb
          exact o G' σ' H' _ d rel' ev ⟨rfl, e2, e3, e4⟩
/-! isinstance(e, C) of a caught exception -/
structure IsX (R : RC) (K : PySem.W.Frag) (cv : Value) (km : Nat → Option Bool) : Prop where
  ok : ∀ c b, km c = some b → ExcC K (R.exA c) ∧ PySem.W.kitOne K (.ref (R.exA c)) cv = some b
def pIsX (km : Nat → Option Bool) (r : RV) (s : MS) : Out RV := match r with
  | .v (.ref n) => match s.hp[n]? with
    | some (.exc c) => (match km c with | some b => .ok (.v (.bl b)) s | none => .bad)
    | _ => .bad
  | _ => .bad
def mIsX (km : Nat → Option Bool) (f : ME) : ME := fun s => (f s).bind fun r s1 => pIsX km r s1
theorem isX_ok {H1 : Hp} {G1 : Gh} {s1 : MS} {km : Nat → Option Bool} {cv : Value} {c : V} {r : RV} {y : V} {Q : VK} (I : IsX R R.K cv km) (hcv : ∀ u, RelV c u → u = cv) (w : Way R F σ G H G1 H1 s1) (rr : RR R σ H G1 H1 r y) (o : OutX rlE R F W σ G H (pIsX km r s1) Q) : rIsK R.K [y, c] H1 Q := by
  unfold pIsX at o
  split at o
  · rename_i n
    split at o
    · rename_i ec hh
      split at o
      · rename_i b hb
        obtain ⟨h1, h2⟩ := I.ok ec b hb
        have rr : VR R.K G1 H1 (.ref n) y := rr
        unfold VR at rr
        obtain ⟨a, rfl, ga⟩ := rr
        obtain ⟨a', ga', ho⟩ := w.rel.hp.objs n _ hh
        have := w.rel.hp.uniq a' a n ga' ga
        subst this
        exact ⟨a', R.exA ec, c, cv, b, rfl, ho, h1, hcv, h2, finB w o⟩
      · exact o.elim
    · exact o.elim
  · exact o.elim
theorem je_isX {e : Expr} {f : ME} {x : Str} {C : Addr} {km : Nat → Option Bool} {p tp pos : Pos} (he : JE X R W e f) (hm : X.mg "isinstance" = none) (hx : X.mg x = some (.ref C)) (I : IsX R X.K (.ref C) km) (hg : Gl X "isinstance" := by rfl) (hgx : Gl X x := by rfl) (hd : (x == ("__debug__" : Str)) = false := by decide)
    (hs : starEach (e :: [.Name x tp]) X.env = (false, eval e X.env) :: starEach [.Name x tp] X.env := by rfl) (hs2 : starEach [.Name x tp] X.env = (false, eval (.Name x tp) X.env) :: starEach [] X.env := by rfl) (hpl : (backTo pos (starEach [.Name x tp] X.env)).any (·.1) = false := by rfl) :
    JE X R W (.Call (.Name "isinstance" p) [e, .Name x tp] [] pos) (mIsX km f) := fun hK F =>
  PE.imp (pe_callB call_isK hg hm PyProof.Rows.boot_isinstance (pa_cons (he hK F) (pa_cons (pe_glob (v := .ref C) hgx hx rfl hd) pa_nil hs2) hs) (by decide) (by decide) hs hpl) fun σ H Q h => by
    refine (first (M := rlE) h).mono fun y H1 ⟨G, r, s1, G1, w, rr, o⟩ => ?_
    have := isX_ok (c := .ref C) (by rw [hK]; exact I) (fun u h => h) w rr o
    rw [hK] at this
    exact this
theorem je_isXb {e : Expr} {f : ME} {x : Str} {T : String} {km : Nat → Option Bool} {p tp pos : Pos} (he : JE X R W e f) (hm : X.mg "isinstance" = none) (hx : X.mg x = none) (hb : bootBuiltins x = some (.type T)) (I : IsX R X.K (.type T) km) (hg : Gl X "isinstance" := by rfl) (hgx : Gl X x := by rfl) (hn : x ≠ "__name__" := by decide) (hd : (x == ("__debug__" : Str)) = false := by decide)
    (hs : starEach (e :: [.Name x tp]) X.env = (false, eval e X.env) :: starEach [.Name x tp] X.env := by rfl) (hs2 : starEach [.Name x tp] X.env = (false, eval (.Name x tp) X.env) :: starEach [] X.env := by rfl) (hpl : (backTo pos (starEach [.Name x tp] X.env)).any (·.1) = false := by rfl) :
    JE X R W (.Call (.Name "isinstance" p) [e, .Name x tp] [] pos) (mIsX km f) := fun hK F =>
  PE.imp (pe_callB call_isK hg hm PyProof.Rows.boot_isinstance (pa_cons (he hK F) (pa_cons (pe_bltn (v := .ty T) hgx hx hb rfl hn hd) pa_nil hs2) hs) (by decide) (by decide) hs hpl) fun σ H Q h => by
    refine (first (M := rlE) h).mono fun y H1 ⟨G, r, s1, G1, w, rr, o⟩ => ?_
    have := isX_ok (c := .ty T) (by rw [hK]; exact I) (fun u h => h) w rr o
    rw [hK] at this
    exact this
end
end Mi
set_option Elab.async false
set_option linter.all false
set_option maxRecDepth 100000
set_option maxHeartbeats 4000000
namespace Mi
open PySem PySem.Spec PyProof.Rows L2
/-! the __init__ of an own exception over ValueError that only calls ValueError.__init__(self, text) -/
theorem exc_wish {K : PySem.W.Frag} {C : Addr} {vs : List V} {H : Hp} {Q : VK} {E : XK} {x : Str} {N : List Str} (T : OexC K C) (h : spI C vs H Q E) :
    tDrop (tVeI K (tCons (tVar 0) (tCons (tC (.str x)) tNil))) { nx := fun _ H' => Q .non H', rt := Q } (L2.start ("self" :: N) vs) H := by
  obtain ⟨a, rfl, e, q⟩ := h
  exact ⟨.ref a, rfl, a, C, [.str x], rfl, by simp, T, e, q⟩
theorem names_own {X : Cx} {x : Str} {c : Value} (hm : X.mg x = some c) (hg : Gl X x := by rfl) (hd : (x == ("__debug__" : Str)) = false := by decide) : Names X x c := ⟨hg, hd, .inl hm⟩
theorem boot_ValueError : bootBuiltins "ValueError" = some (.type "ValueError") := by decide +kernel
end Mi
set_option Elab.async false
set_option linter.all false
set_option maxRecDepth 100000
set_option maxHeartbeats 4000000
namespace Mi
open PySem PySem.Spec PyProof.Rows L2
theorem flyingZ_keeps {B h h' : Heap} {l : List Env} {a : Addr} {Z : Obj → Prop} (f : HandSPX.FlyingZ B l a Z h) (k : ∀ b o, h.get? b = some o → h'.get? b = some o) : HandSPX.FlyingZ B l a Z h' := by
  obtain ⟨f1, f2, f3, oe, vs, T, oT, ts, he, hz, hd, h1, hnT, hTe, hT, hdT, h3⟩ := f
  exact ⟨fun b o e => k b o (f1 b o e), f2, f3.of_keeps fun b o e _ => ⟨o, k b o e, rfl⟩, oe, vs, T, oT, ts, k _ _ he, hz, hd, h1, hnT, hTe, k _ _ hT, hdT, h3⟩
/-- the test of an except clause: it answers cm of the exception's class, and lays at most new objects -/
def Clause (X : Cx) (ec : Expr) (cm : Value → Option Bool) : Prop := ∀ {a : Addr} {oe : Obj} {pn pins : List (Addr × Obj)} {σ : L2.St} {H : Hp} {s : Shared} {cls : Value} {b : Bool} {Q : Bool → Shared → Prop} {E : Value → Shared → Prop},
  Inv (X.suite a ((a, oe) :: pn)) pins σ H s → PySem.W.Looks (model X.prog X.w) s.heap (typeOf (.ref a)) cls → cm cls = some b →
  (∀ h', (∀ b o, s.heap.get? b = some o → h'.get? b = some o) → Q b { s with heap := h' }) →
  wpAny (model X.prog X.w) (X.A.mark (some (.ref a))) (eval ec X.env) (fun c s₁ => wpAny (model X.prog X.w) (X.A.mark (some (.ref a))) (excMatches (.ref a) c) Q E s₁) E s
def wAsC (cm : Value → Option Bool) (i : Nat) (ts : TS) (Wout : WX) (D : Ends) : WX := fun cls d σ H =>
  ∃ b, cm cls = some b ∧ (b = true → ∀ a, H a = none → ts { nx := fun σ' H' => D.nx (σ'.set i none) H', rt := D.rt, bk := fun σ' H' => D.bk (σ'.set i none) H', ct := fun σ' H' => D.ct (σ'.set i none) H' } (σ.set i (some (.ref a))) (upd H a (ExK cls d a))) ∧
    (b = false → Wout cls d σ H)
section
variable {X : Cx} {n : Str} {ec : Expr} {cm : Value → Option Bool} {i : Nat} {body suite : List Stmt} {b₀ : Stmt} {np pos pos' : Pos} {tb : WX → TS} {ts : TS} {Wout : WX}
theorem ps_try_asC (hs : X.stack = X.env :: X.outer) (hf : X.env.frame = some X.env.locals) (hN : X.N.Nodup) (hi : X.N[i]? = some n) (hln : X.env.kindOf n = some .local) (hc : Clause X ec cm) (tk : Takes X Wout)
    (hb : ∀ (W : WX) (pn : List (Addr × Obj)) (xe : Value → Shared → Prop), Takes (X.tr pn xe) W → PassesOwn (model X.prog X.w) X.A X.env xe → PSs (X.tr pn xe) body (tb W))
    (hsu : ∀ (a : Addr) (pn : List (Addr × Obj)), PSs (X.suite a pn) (b₀ :: suite) ts) :
    PS X (.Try body [.ExceptHandler (some ec) (some n) (b₀ :: suite) pos'] [] [] pos) (fun D σ H => tb (wAsC cm i ts Wout D) D σ H) := by
  refine ⟨fun pins s σ H D I h => ?_⟩
  have ok := I.ok
  have hfr : X.A.frames = some (X.env :: X.outer) := by rw [ok.frames, hs]
  have hloc : Loc X.env.scope n := .inl hln
  refine wpAny_Try_except ?_
  refine wpAny_mono ((hb (wAsC cm i ts Wout D) (X.pn ++ pins) (fun e s₁ => wpAny (model X.prog X.w) X.A (noteFrame e X.env) (fun _ s₂ => wpAny (model X.prog X.w) X.A (setFlight e none) (fun _ s₃ =>
    wpAny (model X.prog X.w) X.A (handleBy e X.env [.ExceptHandler (some ec) (some n) (b₀ :: suite) pos']) (SP X pins D) X.xe s₃) X.xe s₂) X.xe s₁) (fun u s' xx => ?_) PassesOwn.looking).run [] s σ H D (I.toTry _) h) (fun f s1 hsp => ?_) (fun e s1 he => he)
  · obtain ⟨a, B, sI, pins', σ', H', cls, d, rfl, J', nb, up, sky, na, os, ag, b, hb1, hyes, hno⟩ := xx
    have J : Inv X pins σ' H' sI := J'.ofTry ok
    have sky' : Sky B (X.env :: X.outer) a (Zc cls d) X.env.locals s'.heap := by rw [← hs]; exact sky
    show wpAny (model X.prog X.w) X.A (noteFrame (.ref a) X.env) _ _ _
    refine Sky.land Zc.steady hfr hf sky' fun h2 fl2 up2 => ?_
    have J2 : Inv X pins σ' H' { s' with heap := h2 } := J.landed nb fl2.1 (up.trans up2) os ag
    obtain ⟨oe2, vs2, he2, hz2, hd2⟩ := fl2.there
    have notFr : ∀ {h : Heap} {o : Obj} {vs : Array Value}, h.FunFrames B (X.env :: X.outer) → h.get? a = some o → o.data = .fields vs → a ∉ frs (X.env :: X.outer) := fun {h o vs} ff e dd hm => by
      obtain ⟨_, o', e', hnf⟩ := ff.mem hm
      rw [e] at e'; cases e'
      exact hnf _ dd
    have nfr := notFr fl2.2.2.1 he2 hd2
    have nL : a ≠ X.env.locals := fun z => nfr (List.mem_filterMap.mpr ⟨X.env, List.mem_cons_self, by rw [hf, z]⟩)
    have nF : a ∉ X.fs := fun hm => by
      obtain ⟨e, he, q⟩ := List.mem_filterMap.mp hm
      exact nfr (List.mem_filterMap.mpr ⟨e, List.mem_cons_of_mem _ he, q⟩)
    have S2 := J2.suite he2 hd2 na nL nF
    refine wpAny_handleBy_cons (codeAny_handlers_test ?_) (by intro q; cases q)
    have LT : PySem.W.Looks (model X.prog X.w) h2 (typeOf (.ref a)) cls := fun A Q E s k q => wpAny_typeOf_ref (k _ _ he2) (by rw [hz2.1]; exact q)
    refine hc S2 LT hb1 fun h3 k3 => ?_
    have fl3 := flyingZ_keeps fl2 k3
    have up3 : s'.heap.UpToSlots h3 := fun b o e hn => by
      obtain ⟨sl, q⟩ := up2 b o e hn
      exact ⟨sl, k3 _ _ q⟩
    cases b with
    | true =>
      refine codeAny_handlers_suite_as ?_
      refine HandSPX.lands_againZ fl3 fun h4 fl4 up4 => ?_
      obtain ⟨oe4, vs4, he4, hz4, hd4⟩ := fl4.there
      obtain ⟨G, g1, g2⟩ := restrict h4 fun b => decide (b ≠ a)
      have gk : ∀ b o, b ≠ a → h4.get? b = some o → G.get? b = some o := fun b o hb e => by rw [g1 b (decide_eq_true hb)]; exact e
      have ga : G.get? a = none := g2 a (decide_eq_false fun z => z rfl)
      have gs : ∀ b o, G.get? b = some o → h4.get? b = some o := fun b o e => by
        by_cases hb : b = a
        · rw [hb, ga] at e; cases e
        · rw [← g1 b (decide_eq_true hb)]; exact e
      have sa : sI.heap.get? a = none := by
        cases q : sI.heap.get? a with
        | none => rfl
        | some o =>
          have z := nb a o q (by rw [hs]; exact nfr)
          rw [fl4.2.1] at z; cases z
      have stG : B.StaysIn G := fun b o e => gk b o (fun z => by rw [z, fl4.2.1] at e; cases e) (fl4.1 b o e)
      have up5 : sI.heap.UpToSlots h4 := (up.trans up3).trans up4
      have upG : sI.heap.UpToSlots G := fun b o e hn => by
        have hba : b ≠ a := fun z => by rw [z, sa] at e; cases e
        obtain ⟨sl, q⟩ := up5 b o e hn
        exact ⟨sl, gk b _ hba q⟩
      have JG : Inv X pins σ' H' { s' with heap := G } := J.landed nb stG upG os ag
      have JT : Inv X pins σ' (upd H' a (ExK cls d a)) { s' with heap := h4 } := JG.laidN (h' := h4) (t' := s'.toks) (fun b u e => gs b u e) ga na (exK_ok he4 hz4 hd4)
      refine store_ok (X := X.suite a (X.pn ++ pins)) (v := .ref a) (suiteT JT) hN hi hloc rfl (fun s5 S5 => ?_) (.inr hln)
      refine wpAny_mono ((hsu a (X.pn ++ pins)).run [] s5 _ _ _ S5 (hyes rfl a na)) (fun f s6 hsp => ?_) (fun _ _ z => False.elim z)
      have end_ : ∀ {σ6 : L2.St} {H6 : Hp} {Q : Shared → Prop}, Inv (X.suite a (X.pn ++ pins)) [] σ6 H6 s6 → (∀ s7, Inv X pins (σ6.set i none) H6 s7 → Q s7) →
          wpAny (model X.prog X.w) X.A (do bindName X.env n .none; unbindBehindTheSuite X.env n pos') (fun _ s7 => Q s7) X.xe s6 := fun {σ6 H6 Q} S6 hq => gone_ok (unsuiteT S6 ok) hN hi hln hq
      cases f with
      | next =>
        obtain ⟨σ6, H6, S6, q6⟩ := hsp
        exact end_ S6 fun s7 J7 => ⟨_, _, J7, q6⟩
      | brk =>
        obtain ⟨σ6, H6, S6, q6⟩ := hsp
        exact end_ S6 fun s7 J7 => ⟨_, _, J7, q6⟩
      | cont =>
        obtain ⟨σ6, H6, S6, q6⟩ := hsp
        exact end_ S6 fun s7 J7 => ⟨_, _, J7, q6⟩
      | ret u =>
        obtain ⟨v6, σ6, H6, S6, r6, q6⟩ := hsp
        exact end_ S6 fun s7 J7 => ⟨_, _, _, J7, r6, q6⟩
    | false =>
      show wpAny _ X.A (handleBy (.ref a) X.env []) _ _ _
      refine wpAny_handleBy_nil ?_
      obtain ⟨k1, k2, k3', oe, vs, T, oT, ts', he, hz, hd, h1, hr⟩ := id fl3
      unfold PySem.passOn
      refine wpAny_bind (wpAny_field he hd h1 ?_)
      rw [if_neg (show ¬ ((Value.ref T == Value.none) = true) from by simp)]
      have fin : wpAny (model X.prog X.w) X.A (setFlight (.ref a) X.env.frame) (fun _ s4 => wpAny (model X.prog X.w) X.A (throw (.ref a) : Sem Flow) (SP X pins D) X.xe s4) X.xe { s' with heap := h3 } := by
        rw [hf]
        refine HandSPX.setFlight_upZ fl3 fun h4 hh4 up4 => wpAny_throw (tk _ _ ?_)
        exact ⟨a, B, sI, pins, σ', H', cls, d, rfl, J, nb, (up.trans up3).trans up4, .inr (.inr (by rw [hs]; exact hh4)), na, os, ag, hno rfl⟩
      first
        | exact wpAny_bind (wpAny_pure (wpAny_bind fin))
        | exact wpAny_bind fin
  · cases f with
    | next =>
      obtain ⟨σ', H', J', q⟩ := hsp
      exact wpAny_execs_nil ⟨σ', H', J'.ofTry ok, q⟩
    | brk =>
      obtain ⟨σ', H', J', q⟩ := hsp
      exact ⟨σ', H', J'.ofTry ok, q⟩
    | cont =>
      obtain ⟨σ', H', J', q⟩ := hsp
      exact ⟨σ', H', J'.ofTry ok, q⟩
    | ret u =>
      obtain ⟨v, σ', H', J', r, q⟩ := hsp
      exact ⟨v, σ', H', J'.ofTry ok, r, q⟩
end
section
variable {X : Cx}
theorem names_ev {a : Addr} {oe : Obj} {pn pins : List (Addr × Obj)} {σ : L2.St} {H : Hp} {s : Shared} {x : Str} {np : Pos} {c : Value} {Q : Value → Shared → Prop} {E : Value → Shared → Prop} (hc : Names X x c) (S : Inv (X.suite a ((a, oe) :: pn)) pins σ H s) (q : Q c s) :
    wpAny (model X.prog X.w) (X.A.mark (some (.ref a))) (eval (.Name x np) X.env) Q E s := by
  obtain ⟨hg, hdbg, hm | ⟨hm, hv, hnn⟩⟩ := hc
  · exact ld_glob (X := X.suite a ((a, oe) :: pn)) S hg hm q hdbg
  · exact ld_blt (X := X.suite a ((a, oe) :: pn)) S hg hm hv q hnn hdbg
theorem clause_name {x : Str} {np : Pos} {c : Value} (hc : Names X x c) : Clause X (.Name x np) (fun cls => PySem.W.exmOne X.K cls c) := by
  intro a oe pn pins σ H s cls b Q E S LT hb h
  exact names_ev hc S ((PySem.W.exm_one (M := model X.prog X.w) S.kIn LT hb).here (h s.heap fun _ _ z => z))
theorem clause_tup2 {x1 x2 : Str} {p1 p2 : Pos} {k : Nat} {pos : Pos} {c1 c2 : Value} (h1 : Names X x1 c1) (h2 : Names X x2 c2)
    (e1 : starEach [.Name x1 p1, .Name x2 p2] X.env = (false, eval (.Name x1 p1) X.env) :: starEach [.Name x2 p2] X.env := by rfl) (e2 : starEach [.Name x2 p2] X.env = (false, eval (.Name x2 p2) X.env) :: starEach [] X.env := by rfl) : Clause X (.Tuple [.Name x1 p1, .Name x2 p2] k pos) (fun cls => PySem.W.exmAny X.K cls [c1, c2]) := by
  intro a oe pn pins σ H s cls b Q E S LT hb h
  refine wpAny_Tuple_spliced (args_cons (names_ev h1 S (args_cons (names_ev h2 S (args_nil ?_)) e2)) e1) 
  refine ⟨(show 2 ≤ sizeLine by rw [sizeLine_eq]; decide), ?_⟩
  have kk : ∀ b o, s.heap.get? b = some o → (s.heap.push { cls := .type "tuple", data := .seq [c1, c2].toArray }).get? b = some o := fun b o e => Heap.get?_push_of_some _ e
  exact (PySem.W.exm_tup2 (M := model X.prog X.w) (S.kIn.keeps kk) (LT.keeps kk) (Heap.get?_push_size _ rfl) hb).here (h _ kk)
theorem clause_tup3 {x1 x2 x3 : Str} {p1 p2 p3 : Pos} {k : Nat} {pos : Pos} {c1 c2 c3 : Value} (h1 : Names X x1 c1) (h2 : Names X x2 c2) (h3 : Names X x3 c3)
    (e1 : starEach [.Name x1 p1, .Name x2 p2, .Name x3 p3] X.env = (false, eval (.Name x1 p1) X.env) :: starEach [.Name x2 p2, .Name x3 p3] X.env := by rfl) (e2 : starEach [.Name x2 p2, .Name x3 p3] X.env = (false, eval (.Name x2 p2) X.env) :: starEach [.Name x3 p3] X.env := by rfl) (e3 : starEach [.Name x3 p3] X.env = (false, eval (.Name x3 p3) X.env) :: starEach [] X.env := by rfl) : Clause X (.Tuple [.Name x1 p1, .Name x2 p2, .Name x3 p3] k pos) (fun cls => PySem.W.exmAny X.K cls [c1, c2, c3]) := by
  intro a oe pn pins σ H s cls b Q E S LT hb h
  refine wpAny_Tuple_spliced (args_cons (names_ev h1 S (args_cons (names_ev h2 S (args_cons (names_ev h3 S (args_nil ?_)) e3)) e2)) e1) 
  refine ⟨(show 3 ≤ sizeLine by rw [sizeLine_eq]; decide), ?_⟩
  have kk : ∀ b o, s.heap.get? b = some o → (s.heap.push { cls := .type "tuple", data := .seq [c1, c2, c3].toArray }).get? b = some o := fun b o e => Heap.get?_push_of_some _ e
  exact (PySem.W.exm_tup3 (M := model X.prog X.w) (S.kIn.keeps kk) (LT.keeps kk) (Heap.get?_push_size _ rfl) hb).here (h _ kk)
theorem clause_tup4 {x1 x2 x3 x4 : Str} {p1 p2 p3 p4 : Pos} {k : Nat} {pos : Pos} {c1 c2 c3 c4 : Value} (h1 : Names X x1 c1) (h2 : Names X x2 c2) (h3 : Names X x3 c3) (h4 : Names X x4 c4)
    (e1 : starEach [.Name x1 p1, .Name x2 p2, .Name x3 p3, .Name x4 p4] X.env = (false, eval (.Name x1 p1) X.env) :: starEach [.Name x2 p2, .Name x3 p3, .Name x4 p4] X.env := by rfl) (e2 : starEach [.Name x2 p2, .Name x3 p3, .Name x4 p4] X.env = (false, eval (.Name x2 p2) X.env) :: starEach [.Name x3 p3, .Name x4 p4] X.env := by rfl) (e3 : starEach [.Name x3 p3, .Name x4 p4] X.env = (false, eval (.Name x3 p3) X.env) :: starEach [.Name x4 p4] X.env := by rfl) (e4 : starEach [.Name x4 p4] X.env = (false, eval (.Name x4 p4) X.env) :: starEach [] X.env := by rfl) : Clause X (.Tuple [.Name x1 p1, .Name x2 p2, .Name x3 p3, .Name x4 p4] k pos) (fun cls => PySem.W.exmAny X.K cls [c1, c2, c3, c4]) := by
  intro a oe pn pins σ H s cls b Q E S LT hb h
  refine wpAny_Tuple_spliced (args_cons (names_ev h1 S (args_cons (names_ev h2 S (args_cons (names_ev h3 S (args_cons (names_ev h4 S (args_nil ?_)) e4)) e3)) e2)) e1) 
  refine ⟨(show 4 ≤ sizeLine by rw [sizeLine_eq]; decide), ?_⟩
  have kk : ∀ b o, s.heap.get? b = some o → (s.heap.push { cls := .type "tuple", data := .seq [c1, c2, c3, c4].toArray }).get? b = some o := fun b o e => Heap.get?_push_of_some _ e
  exact (PySem.W.exm_tup4 (M := model X.prog X.w) (S.kIn.keeps kk) (LT.keeps kk) (Heap.get?_push_size _ rfl) hb).here (h _ kk)
end
section
variable {X : Cx} {R : RC} {W : WX} {F : FI} {σ : L2.St} {G : Gh} {H : Hp} {s : MS}
theorem js_tryC {n y : Str} {i j : Nat} {ec : Expr} {cmv : Value → Option Bool} {cm : Nat → Option Bool} {body : List Stmt} {fb : MSt} {py pn pa pos pos' : Pos} (hN : X.N.Nodup) (hc : Clause X ec cmv) (tk : Takes X W) (hi : X.N[i]? = some n) (hj : X.N[j]? = some y)
    (hcm : ∀ c b, cm c = some b → cmv (.ref (R.exA c)) = some b)
    (hb : ∀ (W' : WX) (pn : List (Addr × Obj)) (xe : Value → Shared → Prop), Takes (X.tr pn xe) W' → PassesOwn (model X.prog X.w) X.A X.env xe → JB (X.tr pn xe) R W' body fb)
    (hs : X.stack = X.env :: X.outer := by rfl) (hf : X.env.frame = some X.env.locals := by rfl) (hln : X.env.kindOf n = some .local := by rfl)
    (hv : Vis X.env.scope n := by exact .inl rfl) (hly : Loc X.env.scope y := by first | exact Or.inl rfl | exact Or.inr rfl)
    (hsw : ∀ (a : Addr) (pnn : List (Addr × Obj)), swapsWith (.Name n pn) (some (.Name y py)) pa.line (X.suite a pnn).env = pure false := by intro _ _; rfl) (hfy : X.fn y = true ∨ X.env.scope.names.lookup y = some .local := by first | exact .inl rfl | exact .inr rfl)
    (hdn : (n == ("__debug__" : Str)) = false := by decide) (hcn : (n == ("__classdict__" : Str)) = false := by decide) :
    JS X R W (.Try body [.ExceptHandler (some ec) (some n) [.Assign [.Name y py] (.Name n pn) pa] pos'] [] [] pos) (mTryE cm i j fb) := fun hK F =>
  PS.imp (ps_try_asC hs hf hN hi hln hc tk (tb := fun W' => tS R F W' fb) (ts := tAsg (tVar i) (gName j)) (fun W' pnn xe t p => hb W' pnn xe t p hK F)
    (fun a pnn => pss_one (ps_set (X := X.suite a pnn) hN hj hly (pe_var (X := X.suite a pnn) hi hv hdn hcn) (hsw a pnn) hfy))) fun D σ H ⟨G, s, rel, o⟩ => by
    refine ⟨G, s, rel, ?_⟩
    have o : OutS R F W G H (mTryE cm i j fb s) D := o
    unfold mTryE at o
    cases q : fb s with
    | ok fl s2 =>
      rw [q] at o
      cases fl with
      | next => exact o
      | ret r => exact o
    | bad => rw [q] at o; exact o.elim
    | exc c xs s1 =>
      rw [q] at o
      simp only at o
      intro G' σ' H' cls d rel' ev ⟨e1, e2, e3, e4⟩
      subst e1
      cases qc : cm c with
      | none => rw [qc] at o; exact o.elim
      | some b =>
        rw [qc] at o
        refine ⟨b, hcm c b qc, fun hb a ha => ?_, fun hb => ?_⟩
        · subst hb
          simp only at o
          split at o
          · rename_i hh
            obtain ⟨rfl, hi', hj'⟩ := hh
            rw [e3 rfl]
            have hiσ : i < σ'.length := by rw [← rel'.len]; exact hi'
            have g : G' a = none := rel'.noRole ha
            have rel1 := rel'.alloc (o := ExK (.ref (R.exA c)) none a) ha
            have hH : H a = none := fresh_back ev ha
            have h0 : F.H0 a = none := fresh_back rel'.since ha
            have m : Mo G' (upd H' a (ExK (.ref (R.exA c)) none a)) (setG G' a (some (.obj s1.hp.length))) (upd H' a (ExK (.ref (R.exA c)) none a)) := Mo.setr g
            have rel2 : Rel R F (setG G' a (some (.obj s1.hp.length))) { s1 with hp := s1.hp ++ [.exc c] } σ' (upd H' a (ExK (.ref (R.exA c)) none a)) := by
              refine ⟨rel1.hp.push g ⟨_, upd_same⟩ upd_same, rel1.len, fun k sv q2 => ?_, rel1.since.setr h0 g, rel1.base, Nat.le_trans rel1.le (by simp), rel1.ent⟩
              obtain ⟨v, q1, k2⟩ := rel1.env k sv q2
              refine ⟨v, q1, ?_⟩
              cases sv with
              | v x => exact VR.mono m x v k2
              | own c =>
                obtain ⟨b, q3, gb, k3⟩ := k2
                exact ⟨b, q3, by rw [setG_ne fun z => by rw [z, g] at gb; cases gb]; exact gb, k3.mono m rfl⟩
            have vr : VR R.K (setG G' a (some (.obj s1.hp.length))) (upd H' a (ExK (.ref (R.exA c)) none a)) (.ref s1.hp.length) (.ref a) := by
              unfold VR
              exact ⟨a, rfl, setG_same⟩
            have rel3 := rel2.setSlot (i := i) (sv := some (.v (.ref s1.hp.length))) hi' (fun x e => by cases e; exact vr)
            have rel4 := rel3.setSlot (i := j) (sv := some (.v (.ref s1.hp.length))) (by simpa using hj') (fun x e => by cases e; exact vr)
            have rel5 := rel4.unset (i := i)
            exact ⟨.ref a, List.getElem?_set_self hiσ, o _ _ _ rel5 ((ev.updNew hH g).setr hH g)⟩
          · exact o.elim
        · subst hb
          exact o G' σ' H' _ d rel' ev ⟨rfl, e2, e3, e4⟩
end
theorem exmAny_two {K : PySem.W.Frag} {cls c : Value} {r : List Value} {b d : Bool} (h1 : PySem.W.exmOne K cls c = some b) (h2 : PySem.W.exmAny K cls r = some d) : PySem.W.exmAny K cls (c :: r) = some (b || d) := by
  unfold PySem.W.exmAny
  rw [h1, h2]
end Mi
set_option Elab.async false
set_option linter.all false
set_option maxRecDepth 100000
set_option maxHeartbeats 4000000
namespace Mi
open PySem PySem.Spec PyProof.Rows L2
/-! the law's own call -/
theorem room_top {k : Nat} (h : L2.Room k callerA) : Room k callerA := ⟨h, rfl⟩
section
variable {P : Program} {w : World} {K : PySem.W.Frag} {mg mb : Str → Option Value} {CX : CXT} {k : Nat} {fa a : Addr} {fd : FuncData} {x : Str} {sp : Sp} {t : Shared} {us : List Value} {ns : List Int}
/-- the base of a heap in which at most the list at a is told -/
theorem top_mod {T : Hp} (KX : K.In t.heap) (gns : t.heap.Ns mainGlobals mg) (bns : t.heap.Ns builtinsNs mb) (boot : ∀ x : Str, x ≠ "__name__" → mb x = bootBuiltins x) (lim : t.heap.NoLimit)
    (at_a : t.heap.get? a = some { cls := .type "list", data := .seq us.toArray }) (one : ∀ b, T b ≠ none → b = a) (free : T a ≠ none → K.lookup a = none) : K.In (hidT t.heap T) ∧ (hidT t.heap T).Ns mainGlobals mg ∧ Mod K mg (hidT t.heap T) := by
  have stays : ∀ {b : Addr} {o : Obj}, t.heap.get? b = some o → (∀ es ep, o.data = .dict es ep → True) → T b = none → (hidT t.heap T).get? b = some o := fun e _ n => hidT_get e n
  have dicts : ∀ {b : Addr} {o : Obj} {es : Array DictEntry} {ep : Nat}, t.heap.get? b = some o → o.data = .dict es ep → T b = none := by
    intro b o es ep e d
    by_cases q : T b = none
    · exact q
    · have := one b q
      subst this
      rw [at_a] at e
      cases e
      cases d
  have nsp : ∀ {b : Addr} {m : Str → Option Value}, t.heap.Ns b m → (hidT t.heap T).Ns b m := by
    rintro b m ⟨o, es, ep, e, d, r⟩
    exact ⟨o, es, ep, hidT_get e (dicts e d), d, r⟩
  have kin : K.In (hidT t.heap T) := by
    intro b o e
    refine hidT_get (KX b o e) ?_
    by_cases q : T b = none
    · exact q
    · have := one b q
      subst this
      rw [free q] at e
      cases e
  obtain ⟨mc, l1, l2⟩ := lim
  exact ⟨kin, nsp gns, kin, nsp gns, ⟨mb, nsp bns, boot⟩, mc, nsp l1, l2⟩
theorem top_run {T : Hp} (KX : K.In t.heap) (gns : t.heap.Ns mainGlobals mg) (bns : t.heap.Ns builtinsNs mb) (boot : ∀ x : Str, x ≠ "__name__" → mb x = bootBuiltins x) (lim : t.heap.NoLimit) (hg : t.gens = #[])
    (at_a : t.heap.get? a = some { cls := .type "list", data := .seq us.toArray }) (room : L2.Room k callerA) (F : ∀ base : Heap, K.In base → base.Ns mainGlobals mg → FnOk P w K mg base CX k fa fd [x] sp)
    (binds : ∀ (s : Shared) (u : Value), BindsTo s fd ⟨[u], []⟩ [(x, u)]) (says : Only T → SqL K T a (ns.map V.int) → sp [.ref a] T (fun v _ => v = .bl true) fun _ _ _ => False) (noX : ∀ e s', CX [] T t (fun _ _ _ => False) e s' → False)
    (only : Only T) (sq : SqL K T a (ns.map V.int)) (hok : HOk P w T t.heap) (one : ∀ b, T b ≠ none → b = a) (free : T a ≠ none → K.lookup a = none) :
    codeAny (model P w) callerA (.call (.ref fa) ⟨[.ref a], []⟩) (fun r s' => r = .ok (.ret (.bool true)) ∧ OldK t.heap s'.heap ∧ s'.os = t.os ∧ AllBare s'.gens) t := by
  obtain ⟨kin, gns', mod⟩ := top_mod KX gns bns boot lim at_a one free
  have start : Env0 P w K mg (hidT t.heap T) callerA [] t T := { frames := rfl, mod := mod, bs := fun b o e => of_hidT e, bsz := Nat.le_of_eq (hidT_size _ _), funs := trivial, frf := (fun b hb => by cases hb), hok := hok, bare := .of_eq hg }
  refine codeAny_mono ((F _ kin gns').run callerA [] t T ⟨[.ref a], []⟩ [.ref a] [.ref a] (fun v _ => v = .bl true) (fun _ _ _ => False) (room_top room) start (binds t _) (.cons rfl .nil) (says only sq)) ?_
  rintro (e | fl) s' h
  · exact (noX e s' h).elim
  · match fl, h with
    | .ret u, ⟨v, T', os, bare, un, hok', rv, q⟩ =>
      have q : v = .bl true := q
      subst q
      cases (show u = Value.bool true from rv)
      refine ⟨rfl, OldK.of_keep ?_, os, bare⟩
      intro b o e
      rcases only b with z | ⟨ob, xs, z⟩
      · exact un.keep b o e z (fun m => by cases m) (by simp)
      · have told := (hok b _ z).1
        rw [e] at told
        cases told
        exact (hok' b _ (un.frzs b _ _ z)).1
    | .next, h => exact h.elim
    | .brk, h => exact h.elim
    | .cont, h => exact h.elim
theorem top_call (KX : K.In t.heap) (gns : t.heap.Ns mainGlobals mg) (bns : t.heap.Ns builtinsNs mb) (boot : ∀ x : Str, x ≠ "__name__" → mb x = bootBuiltins x) (lim : t.heap.NoLimit) (hg : t.gens = #[])
    (at_a : t.heap.get? a = some { cls := .type "list", data := .seq us.toArray }) (nums : IntsAre us ns) (hl : ns.length ≤ sizeLine) (room : L2.Room k callerA) (F : ∀ base : Heap, K.In base → base.Ns mainGlobals mg → FnOk P w K mg base CX k fa fd [x] sp)
    (binds : ∀ (s : Shared) (u : Value), BindsTo s fd ⟨[u], []⟩ [(x, u)]) (says : ∀ T : Hp, Only T → SqL K T a (ns.map V.int) → sp [.ref a] T (fun v _ => v = .bl true) fun _ _ _ => False) (noX : ∀ T e s', CX [] T t (fun _ _ _ => False) e s' → False) :
    codeAny (model P w) callerA (.call (.ref fa) ⟨[.ref a], []⟩) (fun r s' => r = .ok (.ret (.bool true)) ∧ OldK t.heap s'.heap ∧ s'.os = t.os ∧ AllBare s'.gens) t := by
  have rv := vals_ints nums
  by_cases q : K.lookup a = none
  · -- the list is told, frozen
    let ob : HO := .frz { cls := .type "list", data := .seq us.toArray } (.lst (ns.map V.int))
    let T : Hp := fun b => if b = a then some ob else none
    have same : T a = some ob := if_pos rfl
    have other : ∀ b, b ≠ a → T b = none := fun b h => if_neg h
    refine top_run (T := T) KX gns bns boot lim hg at_a room F binds (says T) (noX T) ?_ (.inl (.inr ⟨_, same⟩)) ?_ ?_ fun _ => q
    · intro b
      by_cases hb : b = a
      · subst hb; exact .inr ⟨_, _, same⟩
      · exact .inl (other b hb)
    · intro b u z
      by_cases hb : b = a
      · subst hb
        rw [same] at z
        cases z
        exact ⟨at_a, by simpa using hl, us, _, rv, at_a⟩
      · rw [other b hb] at z; cases z
    · intro b z
      by_cases hb : b = a
      · exact hb
      · exact (z (other b hb)).elim
  · -- the list is one of the text's own
    obtain ⟨o, ho⟩ := Option.ne_none_iff_exists'.mp q
    have e := KX a o ho
    rw [at_a] at e
    cases e
    refine top_run (T := fun _ => none) KX gns bns boot lim hg at_a room F binds (says _) (noX _) (fun _ => .inl rfl) (.inr ⟨_, us.toArray, _, ho, rfl, rfl, rfl, ?_, by simpa using rv⟩) (fun b u z => ?_) (fun b z => (z rfl).elim) fun z => (z rfl).elim
    · rw [List.size_toArray, nums.length]; exact hl
    · cases z
end
/-- the head's goal, from the def of the law -/
theorem walk_top {l : PySem.W.OpenLaw} {n k : Nat} {q : Program} {loose : List Str} {XP : (Str → Option Value) → Heap → Prop} {YP : World → Heap → Prop} {d : DefRec} {K : Params → PySem.W.Frag} {CX : World → CXT} {sp : World → Sp} {x : Str}
    (hn : l.most = some n) (hn2 : n ≤ sizeLine) (hdf : d.params.defaults = []) (room : L2.Room k callerA) (hY : ∀ (w : World) (h : Heap), YP w h → (K w.params).In h)
    (F : ∀ (w : World) (mg : Str → Option Value) (fa : Addr) (h : Heap), (K w.params).In h → h.Ns mainGlobals mg → mg d.name = some (.ref fa) → ∃ fd : FuncData, (∀ (s : Shared) (u : Value), BindsTo s fd ⟨[u], []⟩ [(x, u)]) ∧ ∀ base : Heap, (K w.params).In base → base.Ns mainGlobals mg → FnOk l.prog w (K w.params) mg base (CX w) k fa fd [x] (sp w))
    (says : ∀ (w : World) (T : Hp) (a : Addr) (ns : List Int), ns.length ≤ n → Only T → SqL (K w.params) T a (ns.map V.int) → sp w [.ref a] T (fun v _ => v = .bl true) fun _ _ _ => False)
    (noX : ∀ (w : World) (T : Hp) (s : Shared) (e : Value) (s' : Shared), CX w [] T s (fun _ _ _ => False) e s' → False) : PySem.W.WalkO q loose XP YP l.row.toRowW d [] (fun f vs => PySem.call f vs) :=
  Att.attach_call hn hdf fun w s0 t mg mb fa o pm cd doc a us ns G Y ho hd hcd at_law at_a nums many hg => by
    obtain ⟨fd, binds, run⟩ := F w mg fa t.heap (hY w _ Y) G.T.g at_law
    exact top_call (hY w _ Y) G.T.g G.T.b G.T.builtins G.T.nolimit hg at_a nums (Nat.le_trans many hn2) room run binds (fun T only sq => says w T a ns many only sq) fun T e s' => noX w T t e s'
end Mi
set_option Elab.async false
set_option linter.all false
set_option maxRecDepth 100000
set_option maxHeartbeats 4000000
namespace Mi
open PySem PySem.Spec PyProof.Rows L2
/-! a law's ends -/
theorem no_CX {P : Program} {w : World} {outer : List Env} {H : Hp} {s : Shared} {u : Value} {s' : Shared} (h : L2.CX P w outer H s (fun _ _ _ => False) u s') : False := by
  obtain ⟨_, _, _, _, _, _, _, _, _, _, _, _, z⟩ := h
  exact z
theorem VRs.ints {K : PySem.W.Frag} {G : Gh} {H : Hp} : ∀ ns : List Int, VRs K G H (ns.map MV.int) (ns.map V.int)
  | [] => VRs.nil (K := K) (G := G) (H := H)
  | n :: ns => VRs.cons (VR.mkInt (K := K) (G := G) (H := H)) (VRs.ints ns)
/-- the run gives True -/
def Says (run : Fn) (ns : List Int) : Prop := ∃ hp, run [.lst (ns.map .int)] [] = .ok (.v (.bl true)) hp
theorem start_law {R : RC} {run : Fn} {H : Hp} {a : Addr} {ns : List Int} {n : Nat} (_ : ns.length ≤ n) (hO : Only H) (hS : SqL R.K H a (ns.map V.int)) (h : Says run ns) : spF R 1 run [.ref a] H (fun v _ => v = .bl true) fun _ _ _ => False := by
  classical
  obtain ⟨hp, h⟩ := h
  refine ⟨fun b => if b = a ∧ Rd H a (.lst (ns.map V.int)) then some .frz else none, [], [.lst (ns.map .int)], ⟨fun n o e => ?_, fun b c n e => ?_, fun b n e => ?_, fun b n f e => ?_, fun b r e => ?_⟩, ?_, rfl, ?_⟩
  · simp at e
  · split at e <;> cases e
  · split at e <;> cases e
  · split at e <;> cases e
  · split at e
    · rename_i hb
      obtain ⟨rfl, r⟩ := hb
      rcases r with r | ⟨o, r⟩
      · exact ⟨_, r⟩
      · exact ⟨_, r⟩
    · cases e
  · refine VRs.cons (K := R.K) ?_ (VRs.nil (K := R.K))
    unfold VR
    refine ⟨a, _, rfl, ?_, VRs.ints ns⟩
    rcases hS with r | k
    · exact .inl ⟨if_pos ⟨rfl, r⟩, r⟩
    · exact .inr k
  · rw [h]
    exact fun G' H' v _ _ _ q => VR.bl (K := R.K) (G := G') (H := H') q
end Mi
set_option Elab.async false
set_option linter.all false
set_option maxRecDepth 100000
set_option maxHeartbeats 4000000
namespace Mi
open PySem PySem.Spec PyProof.Rows L2
/-! the mini programs, evaluated -/
section
variable {f g fa fb fc fo fi fe : ME} {fs : MS → Out (List RV)} {fv : MS → Out (List MV)} {ft fu : MS → Out Bool} {sa sb : MSt} {s : MS} {x : MV} {i : Nat} {k : Int} {p : RV → RV → MS → Out RV}
@[simp] theorem e_C : mC x s = .ok (.v x) s := rfl
@[simp] theorem e_Var : mVar i s = (match s.env[i]? with
  | some (some (.v x)) => .ok (.v x) s
  | some (some (.own _)) => .ok (.loc i) s
  | _ => .bad) := rfl
@[simp] theorem e_Bin : mBin p fa fb s = (fa s).bind fun r1 s1 => (fb s1).bind fun r2 s2 => p r1 r2 s2 := rfl
@[simp] theorem e_Seq : mSeq sa sb s = (sa s).bind fun fl s1 => match fl with
  | .next => sb s1
  | .ret r => .ok (.ret r) s1 := rfl
@[simp] theorem e_Next : mNext s = .ok .next s := rfl
@[simp] theorem e_Set : mSet i f s = (f s).bind fun r s1 => putSlot i r s1 := rfl
@[simp] theorem e_putV : putSlot i (.v x) s = if i < s.env.length then .ok .next { s with env := s.env.set i (some (.v x)) } else .bad := rfl
@[simp] theorem e_putO {c : C} : putSlot i (.own c) s = if i < s.env.length then .ok .next { s with env := s.env.set i (some (.own c)) } else .bad := rfl
@[simp] theorem e_Ret : mRet f s = (f s).bind fun r s1 => (giveR r s1).bind fun fr s2 => .ok (.ret fr) s2 := rfl
@[simp] theorem e_giveV : giveR (.v x) s = .ok (.v x) s := rfl
@[simp] theorem e_giveO {c : C} : giveR (.own c) s = .ok (.own c) s := rfl
@[simp] theorem e_giveL : giveR (.loc i) s = (match s.env[i]? with
    | some (some (.own c)) => .ok (.own c) { s with env := s.env.set i none }
    | _ => .bad) := rfl
@[simp] theorem e_If : mIf ft sa sb s = (ft s).bind fun b s1 => if b = true then sa s1 else sb s1 := rfl
@[simp] theorem e_IfE : mIfE ft fa fb s = (ft s).bind fun b s1 => if b = true then fa s1 else fb s1 := rfl
@[simp] theorem e_TestB : mTestB f s = (f s).bind fun r s1 => match r with | .v (.bl b) => .ok b s1 | _ => .bad := rfl
@[simp] theorem e_Test : mTest f s = (f s).bind fun r s1 => match truth s1 r with | some b => .ok b s1 | none => .bad := rfl
@[simp] theorem e_AndT : mAndT ft fu s = (ft s).bind fun b s1 => if b = true then fu s1 else .ok false s1 := rfl
@[simp] theorem e_OrT : mOrT ft fu s = (ft s).bind fun b s1 => if b = true then .ok true s1 else fu s1 := rfl
@[simp] theorem e_NotT : mNotT ft s = (ft s).bind fun b s1 => .ok (!b) s1 := rfl
@[simp] theorem e_And : mAnd fa fb s = (fa s).bind fun r s1 => match truth s1 r with | some true => fb s1 | some false => .ok r s1 | none => .bad := rfl
@[simp] theorem e_Or : mOr fa fb s = (fa s).bind fun r s1 => match truth s1 r with | some true => .ok r s1 | some false => fb s1 | none => .bad := rfl
@[simp] theorem e_Not : mNot fa s = (fa s).bind fun r s1 => match truth s1 r with | some b => .ok (.v (.bl (!b))) s1 | none => .bad := rfl
@[simp] theorem e_Neg : mNeg fa s = (fa s).bind fun r s1 => match r with | .v (.int i) => .ok (.v (.int (-i))) s1 | _ => .bad := rfl
@[simp] theorem e_truthB {b : Bool} : truth s (.v (.bl b)) = some b := rfl
@[simp] theorem e_truthI : truth s (.v (.int k)) = some (k != 0) := rfl
@[simp] theorem e_truthN : truth s (.v .non) = some false := rfl
@[simp] theorem e_Sh : mSh f s = (f s).bind fun r s1 => share r s1 := rfl
@[simp] theorem e_shV : share (.v x) s = .ok x s := rfl
@[simp] theorem e_shO {c : C} : share (.own c) s = if isLk c = true then .bad else .ok (frzC c) s := rfl
@[simp] theorem e_shL : share (.loc i) s = (match s.env[i]? with
    | some (some (.own c)) => if isLk c = true then .bad else .ok (frzC c) { s with env := s.env.set i (some (.v (frzC c))) }
    | _ => .bad) := rfl
@[simp] theorem e_frzL {xs : List MV} : frzC (.lst xs) = .lst xs := rfl
@[simp] theorem e_Cons : mCons f fs s = (f s).bind fun r s1 => (fs s1).bind fun rs s2 => .ok (r :: rs) s2 := rfl
@[simp] theorem e_ConsS : mConsS f fv s = (f s).bind fun r0 s0 => (share r0 s0).bind fun r s1 => (fv s1).bind fun rs s2 => .ok (r :: rs) s2 := by
  show ((f s).bind fun r s1 => share r s1).bind _ = _
  cases f s <;> rfl
@[simp] theorem e_Tup : mTup fv s = (fv s).bind fun xs s1 => if xs.length ≤ sizeLine then .ok (.v (.tup xs)) s1 else .bad := rfl
@[simp] theorem e_Lst : mLst fv s = (fv s).bind fun xs s1 => if xs.length ≤ sizeLine then .ok (.own (.lst xs)) s1 else .bad := rfl
@[simp] theorem e_Box : mBox f s = (f s).bind fun r s1 => match r with
  | .own c => .ok (.v (.ref s1.hp.length)) { s1 with hp := s1.hp ++ [.box c] }
  | _ => .bad := rfl
@[simp] theorem e_CallB {q : List RV → MS → Out RV} : mCallB q fs s = (fs s).bind q := rfl
@[simp] theorem e_Call {run : Fn} {n : Nat} : mCall run n fv s = (fv s).bind fun xs s1 => if xs.length = n then mRun run xs s1 else .bad := rfl
@[simp] theorem e_Call0 {run : Fn} : mCall0 run s = mRun run [] s := rfl
@[simp] theorem e_CallK0 {run : Fn} {n nk : Nat} {idx : List Nat} : mCallK0 run n nk idx fv s = (fv s).bind fun ys s1 => if ys.length = nk ∧ (permL idx ys).length = n then mRun run (permL idx ys) s1 else .bad := rfl
@[simp] theorem e_CallK {run : Fn} {n np nk : Nat} {idx : List Nat} {fw : MS → Out (List MV)} : mCallK run n np nk idx fv fw s = (fv s).bind fun xs s1 => (fw s1).bind fun ys s2 => if xs.length = np ∧ ys.length = nk ∧ (permL idx (xs ++ ys)).length = n then mRun run (permL idx (xs ++ ys)) s2 else .bad := rfl
@[simp] theorem e_perm0 {l : List MV} : permL [] l = [] := rfl
@[simp] theorem e_perm1 {l : List MV} {idx : List Nat} : permL (i :: idx) l = match l[i]? with | some x => x :: permL idx l | none => permL idx l := by
  unfold permL
  cases e : l[i]? <;> simp [List.filterMap_cons, e]
@[simp] theorem e_frV : frRV (.v x) = .v x := rfl
@[simp] theorem e_frO {c : C} : frRV (.own c) = .own c := rfl
theorem run_eq {run : Fn} {xs : List MV} {r : FR} {hp : List MO} (h : run xs s.hp = .ok r hp) : mRun run xs s = .ok (frRV r) { s with hp := hp } := by unfold mRun; rw [h]
@[simp] theorem e_Part : mPart f s = (f s).bind fun r s1 => match r with | .v (.int i) => .ok (some i) s1 | _ => .bad := rfl
@[simp] theorem e_Slice {fl fh : MS → Out (Option Int)} : mSlice fa fl fh s = (fa s).bind fun r s1 => (fl s1).bind fun lo s2 => (fh s2).bind fun hi s3 => opSlice r lo hi s3 := rfl
@[simp] theorem e_Rev : mRev fa s = (fa s).bind opRev := rfl
@[simp] theorem e_SM {q : List Nat → List RV → MS → Out RV} : mSM q fo fs s = (fo s).bind fun r s1 => match r with
  | .v (.str z) => (fs s1).bind fun rs s2 => q z rs s2
  | _ => .bad := rfl
@[simp] theorem e_SetIx : mSetIx fe fo fi s = (fe s).bind fun r0 s0 => (share r0 s0).bind fun x s1 => (fo s1).bind fun r s2 => (fi s2).bind fun i s3 => setIx r i x s3 := by
  show ((fe s).bind fun r s1 => share r s1).bind _ = _
  cases fe s <;> rfl
@[simp] theorem e_Asg {tg : MG} : mAsg f tg s = (f s).bind fun r0 s0 => (share r0 s0).bind fun x s1 => match tg x s1 with | some s2 => .ok .next s2 | none => .bad := by
  show ((f s).bind fun r s1 => share r s1).bind _ = _
  cases f s <;> rfl
@[simp] theorem e_Par {j : Nat} : mPar i j fv s = (fv s).bind fun xs s1 => match xs with
  | [x, y] => if i < s1.env.length ∧ j < s1.env.length then .ok .next { s1 with env := (s1.env.set i (some (.v x))).set j (some (.v y)) } else .bad
  | _ => .bad := rfl
@[simp] theorem e_gN : gN i x s = if i < s.env.length then some { s with env := s.env.set i (some (.v x)) } else none := rfl
@[simp] theorem e_gsNil : gsNil [] s = some s := rfl
@[simp] theorem e_gsCons {t : MG} {u : List MV → MS → Option MS} {xs : List MV} : gsCons t u (x :: xs) s = (t x s).bind (u xs) := rfl
@[simp] theorem e_gT {n : Nat} {u : List MV → MS → Option MS} {xs : List MV} : gT n u (.tup xs) s = if xs.length = n then u xs s else none := rfl
@[simp] theorem e_add {a b : Int} : opAdd (.v (.int a)) (.v (.int b)) s = .ok (.v (.int (a + b))) s := rfl
@[simp] theorem e_addS {a b : List Nat} : opAdd (.v (.str a)) (.v (.str b)) s = if a.length + b.length ≤ sizeLine then .ok (.v (.str (a ++ b))) s else .bad := rfl
@[simp] theorem e_addL {a b : List MV} : opAdd (.own (.lst a)) (.own (.lst b)) s = if a.length + b.length ≤ sizeLine then .ok (.own (.lst (a ++ b))) s else .bad := rfl
@[simp] theorem e_sub {a b : Int} : opSub (.v (.int a)) (.v (.int b)) s = .ok (.v (.int (a - b))) s := rfl
@[simp] theorem e_mul {a b : Int} : opMul (.v (.int a)) (.v (.int b)) s = if CMul a b then .ok (.v (.int (a * b))) s else .bad := rfl
@[simp] theorem e_mod {a b : Int} : opMod (.v (.int a)) (.v (.int b)) s = if 0 < b then .ok (.v (.int (a % b))) s else .bad := rfl
@[simp] theorem e_div {a b : Int} : opDiv (.v (.int a)) (.v (.int b)) s = if CDiv a b then .ok (.v (.int (a / b))) s else .bad := rfl
@[simp] theorem e_pow {a b : Int} : opPow (.v (.int a)) (.v (.int b)) s = if CPow a b then .ok (.v (.int (a ^ b.toNat))) s else .bad := rfl
@[simp] theorem e_lt {a b : Int} : opLt (.v (.int a)) (.v (.int b)) s = .ok (.v (.bl (decide (a < b)))) s := rfl
@[simp] theorem e_le {a b : Int} : opLe (.v (.int a)) (.v (.int b)) s = .ok (.v (.bl (decide (a ≤ b)))) s := rfl
@[simp] theorem e_gt {a b : Int} : opGt (.v (.int a)) (.v (.int b)) s = .ok (.v (.bl (decide (b < a)))) s := rfl
@[simp] theorem e_ge {a b : Int} : opGe (.v (.int a)) (.v (.int b)) s = .ok (.v (.bl (decide (b ≤ a)))) s := rfl
@[simp] theorem e_lenS {z : List Nat} : pLen [.v (.str z)] s = if z.length ≤ sizeLine then .ok (.v (.int z.length)) s else .bad := rfl
@[simp] theorem e_lenL {xs : List MV} : pLen [.v (.lst xs)] s = .ok (.v (.int xs.length)) s := rfl
@[simp] theorem e_lenT {xs : List MV} : pLen [.v (.tup xs)] s = .ok (.v (.int xs.length)) s := rfl
@[simp] theorem e_lenO {xs : List MV} : pLen [.own (.lst xs)] s = .ok (.v (.int xs.length)) s := rfl
@[simp] theorem e_abs : pAbs [.v (.int k)] s = .ok (.v (.int (if k < 0 then -k else k))) s := rfl
@[simp] theorem e_max {a b : Int} : pMax [.v (.int a), .v (.int b)] s = .ok (.v (.int (if b > a then b else a))) s := rfl
@[simp] theorem e_min {a b : Int} : pMin [.v (.int a), .v (.int b)] s = .ok (.v (.int (if b < a then b else a))) s := rfl
@[simp] theorem e_intI : pInt [.v (.int k)] s = .ok (.v (.int k)) s := rfl
@[simp] theorem e_intB {b : Bool} : pInt [.v (.bl b)] s = .ok (.v (.int (if b then 1 else 0))) s := rfl
@[simp] theorem e_ord {c : Nat} : pOrd [.v (.str [c])] s = .ok (.v (.int c)) s := rfl
@[simp] theorem e_repr {b : Bool} : pReprB [.v (.bl b)] s = .ok (.v (.str (if b then [84, 114, 117, 101] else [70, 97, 108, 115, 101]))) s := rfl
@[simp] theorem e_ixS {z : List Nat} : opIx (.v (.str z)) (.v (.int k)) s = if z.length ≤ sizeLine then (match atI z k with | some c => .ok (.v (.str [c])) s | none => .bad) else .bad := rfl
@[simp] theorem e_ixL {xs : List MV} : opIx (.v (.lst xs)) (.v (.int k)) s = match atI xs k with | some x => .ok (.v x) s | none => .bad := rfl
@[simp] theorem e_ixO {xs : List MV} : opIx (.own (.lst xs)) (.v (.int k)) s = match atI xs k with | some x => .ok (.v x) s | none => .bad := rfl
@[simp] theorem e_ixT {xs : List MV} : opIx (.v (.tup xs)) (.v (.int k)) s = match atI xs k with | some x => .ok (.v x) s | none => .bad := rfl
theorem e_ixR {n : Nat} {xs : List MV} (h : s.hp[n]? = some (.box (.lst xs))) : opIx (.v (.ref n)) (.v (.int k)) s = match atI xs k with | some x => .ok (.v x) s | none => .bad := by
  have : seqOf s (.v (.ref n)) = some xs := by simp [seqOf, cont, h]
  show (match seqOf s (.v (.ref n)) with | some xs => (match atI xs k with | some x => Out.ok (RV.v x) s | none => .bad) | none => .bad) = _
  rw [this]
@[simp] theorem e_sliceS {z : List Nat} {lo hi : Option Int} : opSlice (.v (.str z)) lo hi s = if z.length ≤ sizeLine then .ok (.v (.str (cutM z lo hi))) s else .bad := rfl
@[simp] theorem e_sliceL {xs : List MV} {lo hi : Option Int} : opSlice (.v (.lst xs)) lo hi s = .ok (.own (.lst (cutM xs lo hi))) s := rfl
@[simp] theorem e_sliceO {xs : List MV} {lo hi : Option Int} : opSlice (.own (.lst xs)) lo hi s = .ok (.own (.lst (cutM xs lo hi))) s := rfl
@[simp] theorem e_revS {z : List Nat} : opRev (.v (.str z)) s = if z.length ≤ sizeLine then .ok (.v (.str z.reverse)) s else .bad := rfl
@[simp] theorem e_revL {xs : List MV} : opRev (.v (.lst xs)) s = .ok (.own (.lst xs.reverse)) s := rfl
@[simp] theorem e_revO {xs : List MV} : opRev (.own (.lst xs)) s = .ok (.own (.lst xs.reverse)) s := rfl
theorem e_setR {n j : Nat} {xs : List MV} (h : s.hp[n]? = some (.box (.lst xs))) (hj : ixN xs.length k = some j) : setIx (.v (.ref n)) (.v (.int k)) x s = .ok .next { s with hp := s.hp.set n (.box (.lst (xs.set j x))) } := by
  simp [setIx, place, h, hj, putC]
theorem e_Mt : mIt f s = (f s).bind itOf := rfl
@[simp] theorem e_itS {z : List Nat} : itOf (.v (.str z)) s = .ok ⟨z.map fun c => .str [c], fun _ => True⟩ s := rfl
@[simp] theorem e_itL {xs : List MV} : itOf (.v (.lst xs)) s = .ok ⟨xs, fun _ => True⟩ s := rfl
@[simp] theorem e_itT {xs : List MV} : itOf (.v (.tup xs)) s = .ok ⟨xs, fun _ => True⟩ s := rfl
@[simp] theorem e_itO {xs : List MV} : itOf (.own (.lst xs)) s = .ok ⟨xs, fun _ => True⟩ s := rfl
@[simp] theorem e_Range1 : mRange1 fs s = (fs s).bind fun rs s1 => match rs with
  | [.v (.int j)] => if -(2 ^ 62) ≤ j ∧ j < 2 ^ 62 then .ok ⟨(List.range j.toNat).map fun i : Nat => .int i, fun _ => True⟩ s1 else .bad
  | _ => .bad := rfl
@[simp] theorem e_Enum : mEnum k f s = (f s).bind fun r s1 => (itOf r s1).bind fun I s2 => .ok ⟨enumItems k I.items, I.chk⟩ s2 := rfl
theorem e_For {it : MS → Out MI} {tg : MG} : mFor it tg sa s = (it s).bind fun I s1 => forGo I.chk tg sa I.items s1 := rfl
theorem e_Lc {vs : List Nat} {it : MS → Out MI} {tg : MG} : mLc vs it tg ft fe s = (it s).bind fun I s1 =>
  (noExc (lcGo vs I.chk tg ft fe I.items [] { s1 with env := wipeM s1.env vs })).bind fun acc s2 => .ok (.own (.lst acc)) { s2 with env := backEnv s1.env s2.env vs } := rfl
/-! == of data without dicts -/
@[simp] theorem e_eqI {neg : Bool} {a b : Int} : opEqv neg (.v (.int a)) (.v (.int b)) s = .ok (.v (.bl (neg ^^ decide (a = b)))) s := by
  show (if SeqAt.shaped (.int a) = true ∧ SeqAt.shaped (.int b) = true then Out.ok (RV.v (.bl (neg ^^ PyData.eqv (.int a) (.int b)))) s else .bad) = _
  rw [if_pos ⟨rfl, rfl⟩]
  rfl
@[simp] theorem e_eqB {neg a b : Bool} : opEqv neg (.v (.bl a)) (.v (.bl b)) s = .ok (.v (.bl (neg ^^ decide (a = b)))) s := by
  cases a <;> cases b <;> rfl
theorem e_eqS {neg : Bool} {a b : List Nat} (ha : a.all (· < 0x110000) = true) (hb : b.all (· < 0x110000) = true) : opEqv neg (.v (.str a)) (.v (.str b)) s = .ok (.v (.bl (neg ^^ decide (a = b)))) s := by
  show (if SeqAt.shaped (.str ⟨a.toArray⟩) = true ∧ SeqAt.shaped (.str ⟨b.toArray⟩) = true then Out.ok (RV.v (.bl (neg ^^ PyData.eqv (.str ⟨a.toArray⟩) (.str ⟨b.toArray⟩)))) s else .bad) = _
  have sh : ∀ z : List Nat, z.all (· < 0x110000) = true → SeqAt.shaped (.str ⟨z.toArray⟩) = true := fun z hz => by
    have : PyData.strOk ⟨z.toArray⟩ = true := by simpa [PyData.strOk] using hz
    simp [SeqAt.shaped, PyData.canLay0, PyData.depth, this]
  rw [if_pos ⟨sh a ha, sh b hb⟩]
  have e : PyData.eqv (.str ⟨a.toArray⟩) (.str ⟨b.toArray⟩) = decide (a = b) := by
    show ((⟨a.toArray⟩ : Str) == ⟨b.toArray⟩) = _
    by_cases h : a = b
    · subst h; simp
    · rw [decide_eq_false h]
      simpa using fun z => h (by simpa using z)
  rw [e]
end
/-! the end of a run -/
def Ok {α : Type} (o : Out α) (Q : α → MS → Prop) : Prop := match o with | .ok a s => Q a s | _ => False
theorem Ok.bind {α β : Type} {o : Out α} {k : α → MS → Out β} {Q : β → MS → Prop} (h : Ok o fun a s => Ok (k a s) Q) : Ok (o.bind k) Q := by
  cases o <;> first | exact h | exact h.elim
theorem Ok.get {α : Type} {o : Out α} {Q : α → MS → Prop} (h : Ok o Q) : ∃ a s, o = .ok a s ∧ Q a s := by
  cases o with
  | ok a s => exact ⟨a, s, rfl, h⟩
  | exc c xs s => exact h.elim
  | bad => exact h.elim
theorem Ok.imp {α : Type} {o : Out α} {Q Q' : α → MS → Prop} (h : Ok o Q) (k : ∀ a s, Q a s → Q' a s) : Ok o Q' := by
  cases o with
  | ok a s => exact k _ _ h
  | exc c xs s => exact h.elim
  | bad => exact h.elim
theorem run_of {n : Nat} {fb : MSt} {args : List MV} {hp hp' : List MO} {r : FR} {e : List (Option SV)} {b : Nat} (h : fb ⟨env0 n args, hp, hp.length⟩ = .ok (.ret r) ⟨e, hp', b⟩) : runOf n fb args hp = .ok r hp' := by unfold runOf; rw [h]
theorem run_ok' {n : Nat} {fb : MSt} {args : List MV} {hp : List MO} {Q : FR → List MO → Prop} (h : Ok (fb ⟨env0 n args, hp, hp.length⟩) fun fl s => ∃ r, fl = .ret r ∧ Q r s.hp) : ∃ r hp', runOf n fb args hp = .ok r hp' ∧ Q r hp' := by
  obtain ⟨fl, s, e, r, rfl, q⟩ := h.get
  exact ⟨r, s.hp, by unfold runOf; rw [e], q⟩
/-! loops -/
theorem forGo_ok {chk : MS → Prop} {tg : MG} {body : MSt} (P : MS → Prop) (hc : ∀ s, P s → chk s) : ∀ (xs : List MV) (s : MS), P s → (∀ x ∈ xs, ∀ s, P s → ∃ s1, tg x s = some s1 ∧ Ok (body s1) fun fl s2 => fl = .next ∧ P s2) →
    Ok (forGo chk tg body xs s) fun fl s2 => fl = .next ∧ P s2
  | [], s, p, _ => by unfold forGo; rw [if_pos (hc s p)]; exact ⟨rfl, p⟩
  | x :: xs, s, p, h => by
    unfold forGo
    rw [if_pos (hc s p)]
    obtain ⟨s1, e, k⟩ := h x (List.mem_cons_self ..) s p
    obtain ⟨fl, s2, e2, rfl, p2⟩ := k.get
    rw [e]
    simp only [e2, Out.bind_ok]
    exact forGo_ok P hc xs s2 p2 fun y hy => h y (List.mem_cons_of_mem _ hy)
/-- a comprehension: what it keeps and what its items are -/
theorem lcGo_ok {vs : List Nat} {chk : MS → Prop} {tg : MG} {te : ME} (P : MS → Prop) (Y : MV → MV → Prop) (hc : ∀ s, P s → chk s) : ∀ (xs acc : List MV) (s : MS), P s → acc.length + xs.length ≤ sizeLine →
    (∀ x ∈ xs, ∀ s, P s → ∃ s1, tg x s = some s1 ∧ Ok (mSh te s1) fun y s2 => Y x y ∧ P { s2 with env := wipeM s2.env vs }) →
    Ok (lcGo vs chk tg mYes te xs acc s) fun ys s2 => P s2 ∧ ∃ zs, ys = acc ++ zs ∧ zs.length = xs.length ∧ ∀ (i : Nat) x, xs[i]? = some x → ∃ y, zs[i]? = some y ∧ Y x y
  | [], acc, s, p, _, _ => by
    unfold lcGo; rw [if_pos (hc s p)]
    exact ⟨p, [], by simp, rfl, fun i x e => by simp at e⟩
  | x :: xs, acc, s, p, hz, h => by
    unfold lcGo
    rw [if_pos (hc s p)]
    obtain ⟨s1, e, k⟩ := h x (List.mem_cons_self ..) s p
    obtain ⟨y, s2, e2, hy, p2⟩ := k.get
    rw [e]
    simp only [mYes, Out.bind_ok, if_true, e2]
    simp only [List.length_cons] at hz
    rw [if_pos (by omega)]
    refine (lcGo_ok P Y hc xs (acc ++ [y]) _ p2 (by simp; omega) fun z hz => h z (List.mem_cons_of_mem _ hz)).imp fun ys s3 ⟨p3, zs, e3, hl, q⟩ => ?_
    refine ⟨p3, y :: zs, by rw [e3]; simp, by simp [hl], fun i x' e => ?_⟩
    cases i with
    | zero => simp at e; subst e; exact ⟨y, rfl, hy⟩
    | succ i => simpa using q i x' (by simpa using e)
theorem list_of_get {α : Type} {g : α → MV} : ∀ {xs : List α} {zs : List MV}, zs.length = xs.length → (∀ (i : Nat) x, xs[i]? = some x → zs[i]? = some (g x)) → zs = xs.map g := fun {xs zs} hl h => by
  apply List.ext_getElem?
  intro i
  by_cases hi : i < xs.length
  · rw [h i _ (List.getElem?_eq_getElem hi)]; simp [hi]
  · rw [List.getElem?_eq_none (by omega), List.getElem?_eq_none (by simp; omega)]
/-- a comprehension that keeps its state -/
theorem lcGo_map {α : Type} {vs : List Nat} {chk : MS → Prop} {tg : MG} {te : ME} (F g : α → MV) (s0 : MS) (hc : chk s0) : ∀ (L : List α) (acc : List MV), acc.length + L.length ≤ sizeLine →
    (∀ a ∈ L, ∃ s1 s2, tg (F a) s0 = some s1 ∧ mSh te s1 = .ok (g a) s2 ∧ { s2 with env := wipeM s2.env vs } = s0) → lcGo vs chk tg mYes te (L.map F) acc s0 = .ok (acc ++ L.map g) s0
  | [], acc, _, _ => by unfold lcGo; simp [hc]
  | a :: L, acc, hz, h => by
    obtain ⟨s1, s2, e1, e2, e3⟩ := h a (List.mem_cons_self ..)
    simp only [List.length_cons] at hz
    have ih := lcGo_map F g s0 hc L (acc ++ [g a]) (by simp; omega) fun b hb => h b (List.mem_cons_of_mem _ hb)
    rw [List.map_cons]
    unfold lcGo
    rw [if_pos hc, e1]
    simp only [mYes, Out.bind_ok, if_true, e2]
    rw [if_pos (by omega), e3, ih]
    simp
theorem e_mRun {run : Fn} {xs : List MV} {s : MS} : mRun run xs s = match run xs s.hp with
  | .ok r hp => .ok (frRV r) { s with hp := hp }
  | .exc c ys hp => .exc c ys { s with hp := hp }
  | .bad => .bad := rfl
@[simp] theorem e_noexc {α : Type} {a : α} {s : MS} : noExc (.ok a s) = .ok a s := rfl
theorem ints_map {α : Type} (f : α → Int) : ∀ L : List α, intsOf (L.map fun a => .int (f a)) = some (L.map f)
  | [] => rfl
  | a :: L => by show (intsOf (L.map fun a => .int (f a))).map (f a :: ·) = _; rw [ints_map f L]; rfl
theorem strs_map {α : Type} (f : α → List Nat) : ∀ L : List α, strsOf (L.map fun a => .str (f a)) = some (L.map f)
  | [] => rfl
  | a :: L => by show (strsOf (L.map fun a => .str (f a))).map (f a :: ·) = _; rw [strs_map f L]; rfl
theorem join_signs : ∀ z : List Nat, joinM [] (z.map fun c => [c]) = z
  | [] => rfl
  | [_] => rfl
  | x :: y :: r => by
    have := join_signs (y :: r)
    simp only [List.map_cons] at this
    simp only [List.map_cons, joinM, this]
    rfl
theorem lens_signs : ∀ z : List Nat, ((z.map fun c => [c]).map (·.length)).sum = z.length
  | [] => rfl
  | x :: r => by have := lens_signs r; simp only [List.map_cons, List.sum_cons, List.length_cons, List.length_nil] at *; omega
/-- texts of one sign each -/
theorem signs_of_get {Y : Nat → Prop} : ∀ (zs : List MV), (∀ (i : Nat), i < zs.length → ∃ c, zs[i]? = some (.str [c]) ∧ Y c) → ∃ z : List Nat, zs = z.map (fun c => .str [c]) ∧ ∀ c ∈ z, Y c
  | [], _ => ⟨[], rfl, fun _ h => by cases h⟩
  | x :: r, h => by
    obtain ⟨c, e, y⟩ := h 0 (by simp)
    obtain ⟨z, e2, y2⟩ := signs_of_get r fun i hi => by simpa using h (i + 1) (by simpa using hi)
    simp at e
    refine ⟨c :: z, by rw [e, e2]; rfl, fun d hd => ?_⟩
    rcases List.mem_cons.mp hd with q | q
    · rw [q]; exact y
    · exact y2 d q
theorem enum_map {α : Type} (k0 : Int) (f : α → MV) (z : List α) : enumItems k0 (z.map f) = z.zipIdx.map fun p => .tup [.int (k0 + (p.2 : Nat)), f p.1] := by
  unfold enumItems
  rw [List.zipIdx_map, List.map_map]
  rfl
theorem e_sumO {xs : List MV} {ns : List Int} {s : MS} (h : intsOf xs = some ns) : pSum [.own (.lst xs)] s = .ok (.v (.int ns.sum)) s := by
  show (match (some xs).bind intsOf with | some ns => Out.ok (RV.v (.int ns.sum)) s | none => .bad) = _
  rw [show (some xs).bind intsOf = some ns from h]
theorem e_joinO {z : List Nat} {xs : List MV} {ys : List (List Nat)} {s : MS} (h : strsOf xs = some ys) : pJoin z [.own (.lst xs)] s = if (ys.map (·.length)).sum + ys.length * z.length ≤ 16777216 then .ok (.v (.str (joinM z ys))) s else .bad := by
  have e : (seqOf s (.own (.lst xs))).bind strsOf = some ys := h
  unfold pJoin
  simp only [e]
theorem CMul.r {i j : Int} (h : -(2 ^ 64) < j ∧ j < 2 ^ 64) : CMul i j := .inr h
theorem CMul.l {i j : Int} (h : -(2 ^ 64) < i ∧ i < 2 ^ 64) : CMul i j := .inl h
theorem line1000 {n : Nat} (h : n ≤ 1000) : n ≤ sizeLine := Nat.le_trans h (by decide)
end Mi
set_option Elab.async false
set_option linter.all false
set_option maxRecDepth 100000
set_option maxHeartbeats 4000000
namespace Mi
open PySem PySem.Spec PyProof.Rows L2
section
variable {f fo fe ff fa fb : ME} {fv : MS → Out (List MV)} {fs : MS → Out (List RV)} {fp : MS → Out (List (MV × MV))} {s : MS} {c j n m i : Nat} {run : Fn} {p : RV → RV → MS → Out RV} {x : MV}
@[simp] theorem e_Fld : mFld c j f s = (f s).bind fun r s1 => match r with
  | .v (.ref n) => match s1.hp[n]? with
    | some (.inst c' fs) => if c' = c then (match fs[j]? with
      | some (some (.v x)) => .ok (.v x) s1
      | some (some (.own _)) => .ok (.fld n j) s1
      | _ => .bad) else .bad
    | _ => .bad
  | _ => .bad := rfl
@[simp] theorem e_SetFld : mSetFld c j fe fo s = (fe s).bind fun r s1 => (fo s1).bind fun ro s2 => match ro with
  | .v (.ref n) => putFldS c j n r s2
  | _ => .bad := rfl
@[simp] theorem e_Meth : mMeth c run n fo fv s = (fo s).bind fun r s1 => match r with
  | .v (.ref q) => match s1.hp[q]? with
    | some (.inst c' _) => if c' = c then (fv s1).bind fun xs s2 => if xs.length + 1 = n then mRun run (.ref q :: xs) s2 else .bad else .bad
    | _ => .bad
  | _ => .bad := rfl
@[simp] theorem e_Make : mMake c m run n fv s = (fv s).bind (mMakeIn c m run n) := rfl
@[simp] theorem e_Aug : mAug i p fe s = (match s.env[i]? with
  | some (some (.v x)) => (fe s).bind fun r s1 => (p (.v x) r s1).bind fun z s2 => putSlot i z s2
  | _ => .bad) := rfl
@[simp] theorem e_iaddI {a b : Int} : opIAdd (.v (.int a)) (.v (.int b)) s = .ok (.v (.int (a + b))) s := rfl
@[simp] theorem e_iaddS {a b : List Nat} : opIAdd (.v (.str a)) (.v (.str b)) s = if a.length + b.length ≤ sizeLine then .ok (.v (.str (a ++ b))) s else .bad := rfl
@[simp] theorem e_Disp : mDisp fp s = (fp s).bind fun ps s1 => if keysOk ps = true ∧ ps.length ≤ 15 then .ok (.own (.dict (mergeM [] ps))) s1 else .bad := rfl
@[simp] theorem e_Dict0 : mDict0 s = .ok (.own (.dict [])) s := rfl
@[simp] theorem e_Expr : mExpr f s = (f s).bind fun _ s1 => .ok .next s1 := rfl
@[simp] theorem e_RetN : mRetN s = .ok (.ret (.v .non)) s := rfl
@[simp] theorem e_keyI {k : Int} : keyOf (.int k) = some (.inl k) := rfl
@[simp] theorem e_keyS {z : List Nat} : keyOf (.str z) = some (.inr ⟨z.toArray⟩) := rfl
@[simp] theorem e_isN {neg : Bool} : opIs neg (.v .non) (.v .non) s = .ok (.v (.bl (neg ^^ true))) s := rfl
end
end Mi
set_option Elab.async false
set_option linter.all false
set_option maxRecDepth 100000
set_option maxHeartbeats 4000000
namespace Mi
open PySem PySem.Spec PyProof.Rows L2
/-! dict contents -/
theorem eqK_to {a b : MV} (h : eqK a b = true) : a = b := by
  cases a <;> cases b <;> simp_all [eqK]
@[simp] theorem eqK_int {a b : Int} : eqK (.int a) (.int b) = decide (a = b) := rfl
@[simp] theorem eqK_str {a b : List Nat} : eqK (.str a) (.str b) = decide (a = b) := rfl
@[simp] theorem eqK_is {a : Int} {b : List Nat} : eqK (.int a) (.str b) = false := rfl
@[simp] theorem eqK_si {a : Int} {b : List Nat} : eqK (.str b) (.int a) = false := rfl
theorem eqK_comm {a b : MV} : eqK a b = eqK b a := by
  cases a <;> cases b <;> simp [eqK, eq_comm]
theorem getK_map {k k' x : MV} : ∀ kvs : List (MV × MV), getK (kvs.map fun p => if eqK p.1 k = true then (p.1, x) else p) k' = if eqK k k' = true then (if (kvs.any fun p => eqK p.1 k) = true then some x else none) else getK kvs k'
  | [] => by simp [getK]
  | (a, y) :: r => by
    have ih := getK_map (k := k) (k' := k') (x := x) r
    by_cases h : eqK a k = true
    · have := eqK_to h
      subst this
      by_cases h2 : eqK a k' = true
      · simp [getK, h, h2]
      · simp [getK, h, h2] at ih ⊢
        exact ih
    · by_cases h2 : eqK k k' = true
      · have := eqK_to h2
        subst this
        have hf : eqK a k = false := by simpa using h
        simp only [List.map_cons, hf, Bool.false_eq_true, if_false, getK, ih, h2, if_true, List.any_cons, Bool.false_or]
      · have hf : eqK a k = false := by simpa using h
        simp only [List.map_cons, hf, Bool.false_eq_true, if_false, getK, ih, if_neg h2]
theorem getK_app {k k' x : MV} : ∀ kvs : List (MV × MV), getK (kvs ++ [(k, x)]) k' = match getK kvs k' with | some y => some y | none => if eqK k k' = true then some x else none
  | [] => by simp [getK]
  | (a, y) :: r => by
    have ih := getK_app (k := k) (k' := k') (x := x) r
    by_cases h : eqK a k' = true
    · simp [getK, h]
    · simp [getK, h, ih]
theorem getK_none {k : MV} : ∀ kvs : List (MV × MV), (kvs.any fun p => eqK p.1 k) = false → getK kvs k = none
  | [], _ => rfl
  | (a, y) :: r, h => by
    simp only [List.any_cons, Bool.or_eq_false_iff] at h
    simp [getK, h.1, getK_none r h.2]
theorem getK_setK {kvs : List (MV × MV)} {k k' x : MV} : getK (setK kvs k x) k' = if eqK k k' = true then some x else getK kvs k' := by
  unfold setK
  by_cases h : (kvs.any fun p => eqK p.1 k) = true
  · rw [if_pos h, getK_map, if_pos h]
  · rw [if_neg h, getK_app]
    by_cases h2 : eqK k k' = true
    · have := eqK_to h2
      subst this
      rw [getK_none kvs (by simpa using h), if_pos h2]
    · simp only [if_neg h2]
      cases getK kvs k' <;> rfl
@[simp] theorem getK_setI {kvs : List (MV × MV)} {a b : Int} {x : MV} : getK (setK kvs (.int a) x) (.int b) = if a = b then some x else getK kvs (.int b) := by simp [getK_setK]
@[simp] theorem getK_setS {kvs : List (MV × MV)} {a b : List Nat} {x : MV} : getK (setK kvs (.str a) x) (.str b) = if a = b then some x else getK kvs (.str b) := by simp [getK_setK]
theorem setK_len {kvs : List (MV × MV)} {k x : MV} : (setK kvs k x).length ≤ kvs.length + 1 := by
  unfold setK; split <;> simp
section
variable {s : MS} {n c j : Nat} {kvs : List (MV × MV)} {xs : List MV} {fs : List (Option SV)} {k x : MV} {r : RV} {z : List Nat}
theorem dict_box (h : s.hp[n]? = some (.box (.dict kvs))) : dictOf s (.v (.ref n)) = some kvs := by simp [dictOf, cont, h]
theorem dict_boxL (h : s.hp[n]? = some (.box (.lst xs))) : dictOf s (.v (.ref n)) = none := by simp [dictOf, cont, h]
theorem dict_fld (h : s.hp[n]? = some (.inst c fs)) (h2 : fs[j]? = some (some (.own (.dict kvs)))) : dictOf s (.fld n j) = some kvs := by simp [dictOf, cont, h, h2]
@[simp] theorem dict_lst : dictOf s (.v (.lst xs)) = none := rfl
@[simp] theorem dict_tup : dictOf s (.v (.tup xs)) = none := rfl
@[simp] theorem dict_str : dictOf s (.v (.str z)) = none := rfl
@[simp] theorem dict_own : dictOf s (.own (.lst xs)) = none := rfl
@[simp] theorem e_ixAL : opIxA (.v (.lst xs)) r s = opIx (.v (.lst xs)) r s := rfl
@[simp] theorem e_ixAT : opIxA (.v (.tup xs)) r s = opIx (.v (.tup xs)) r s := rfl
@[simp] theorem e_ixAS : opIxA (.v (.str z)) r s = opIx (.v (.str z)) r s := rfl
@[simp] theorem e_ixAO : opIxA (.own (.lst xs)) r s = opIx (.own (.lst xs)) r s := rfl
theorem e_ixAR {k : Int} (h : s.hp[n]? = some (.box (.lst xs))) : opIxA (.v (.ref n)) (.v (.int k)) s = match atI xs k with | some x => .ok (.v x) s | none => .bad := by
  have : dictOf s (.v (.ref n)) = none := dict_boxL h
  unfold opIxA; rw [this]; exact e_ixR h
theorem e_ixAD (h : dictOf s r = some kvs) (hk : (keyOf k).isSome = true) (hx : getK kvs k = some x) : opIxA r (.v k) s = .ok (.v x) s := by
  unfold opIxA; rw [h]
  obtain ⟨q, e⟩ := Option.isSome_iff_exists.mp hk
  simp only [e, hx]
theorem e_inAD {neg : Bool} (h : dictOf s r = some kvs) (hk : (keyOf k).isSome = true) : opInA neg (.v k) r s = .ok (.v (.bl (neg ^^ (getK kvs k).isSome))) s := by
  unfold opInA; rw [h]
  obtain ⟨q, e⟩ := Option.isSome_iff_exists.mp hk
  simp only [e]
@[simp] theorem e_SetIxA {fe fo fi : ME} : mSetIxA fe fo fi s = (fe s).bind fun r0 s0 => (share r0 s0).bind fun x s1 => (fo s1).bind fun r s2 => (fi s2).bind fun i s3 => setIxA r i x s3 := by
  show ((fe s).bind fun r s1 => share r s1).bind _ = _
  cases fe s <;> rfl
theorem e_setAR {k : Int} {j : Nat} (h : s.hp[n]? = some (.box (.lst xs))) (hj : ixN xs.length k = some j) : setIxA (.v (.ref n)) (.v (.int k)) x s = .ok .next { s with hp := s.hp.set n (.box (.lst (xs.set j x))) } := by
  simp [setIxA, place, h, hj, putC]
theorem e_setAD (h : s.hp[n]? = some (.box (.dict kvs))) (hk : (keyOf k).isSome = true) (hl : kvs.length < sizeLine) : setIxA (.v (.ref n)) (.v k) x s = .ok .next { s with hp := s.hp.set n (.box (.dict (setK kvs k x))) } := by
  obtain ⟨q, e⟩ := Option.isSome_iff_exists.mp hk
  simp [setIxA, place, h, e, hl, putC]
theorem e_setAF (h : s.hp[n]? = some (.inst c fs)) (h2 : fs[j]? = some (some (.own (.dict kvs)))) (hk : (keyOf k).isSome = true) (hl : kvs.length < sizeLine) :
    setIxA (.fld n j) (.v k) x s = .ok .next { s with hp := s.hp.set n (.inst c (fs.set j (some (.own (.dict (setK kvs k x)))))) } := by
  obtain ⟨q, e⟩ := Option.isSome_iff_exists.mp hk
  simp [setIxA, place, h, h2, e, hl, putC, putFld]
@[simp] theorem e_Get2 {fo fe ff : ME} : mGet2 fo fe ff s = (fo s).bind fun r s1 => match dictOf s1 r with
  | some _ => (fe s1).bind fun q0 t1 => (share q0 t1).bind fun q s2 => (ff s2).bind fun d0 t2 => (share d0 t2).bind fun d s3 => match dictOf s3 r with
    | some kvs => match keyOf q with
      | some _ => .ok (.v ((getK kvs q).getD d)) s3
      | none => .bad
    | none => .bad
  | none => .bad := by
  unfold mGet2
  congr 1
  funext r s1
  cases dictOf s1 r with
  | none => rfl
  | some u =>
    show ((fe s1).bind fun r s1 => share r s1).bind _ = _
    cases fe s1 with
    | ok a t1 =>
      show (share a t1).bind _ = (share a t1).bind _
      congr 1
      funext q s2
      show ((ff s2).bind fun r s1 => share r s1).bind _ = _
      cases ff s2 <;> rfl
    | exc c xs t1 => rfl
    | bad => rfl
/-- d.setdefault(k, x) at a box -/
theorem e_Setd {fo fe ff : ME} {s1 s2 s3 : MS} {q d : MV} {kv0 : List (MV × MV)} (ho : fo s = .ok (.v (.ref n)) s1) (h1 : dictOf s1 (.v (.ref n)) = some kv0) (he : mSh fe s1 = .ok q s2) (hf : mSh ff s2 = .ok d s3)
    (h : s3.hp[n]? = some (.box (.dict kvs))) (hk : (keyOf q).isSome = true) (hl : kvs.length < sizeLine) :
    mSetd fo fe ff s = match getK kvs q with
      | some x => .ok (.v x) s3
      | none => .ok (.v d) { s3 with hp := s3.hp.set n (.box (.dict (setK kvs q d))) } := by
  obtain ⟨k0, e⟩ := Option.isSome_iff_exists.mp hk
  unfold mSetd
  simp only [ho, Out.bind_ok, h1, he, hf, place, h, e, hl, if_true, putC]
  all_goals (cases getK kvs q <;> rfl)
@[simp] theorem e_EnumP {fs : MS → Out (List RV)} : mEnumP fs s = (fs s).bind fun rs s1 => match rs with
  | [r, .v (.int k)] => if -(2 ^ 63) ≤ k ∧ k < 2 ^ 63 then (itOf r s1).bind fun I s2 => .ok ⟨enumItems k I.items, I.chk⟩ s2 else .bad
  | _ => .bad := rfl
theorem e_putS {fs : List (Option SV)} (h : s.hp[n]? = some (.inst c fs)) (hj : noOwn fs[j]? = true ∨ s.base ≤ n) : putFldS c j n (.v x) s = .ok .next { s with hp := s.hp.set n (.inst c (fs.set j (some (.v x)))) } := by
  unfold putFldS; rw [h]; simp only
  simp only [hj, and_self, if_true]; rfl
theorem e_putSO {fs : List (Option SV)} {C : C} (h : s.hp[n]? = some (.inst c fs)) (hj : noOwn fs[j]? = true ∨ s.base ≤ n) : putFldS c j n (.own C) s = .ok .next { s with hp := s.hp.set n (.inst c (fs.set j (some (.own C)))) } := by
  unfold putFldS; rw [h]; simp only
  simp only [hj, and_self, if_true]
/-- a field's text that grows -/
theorem e_AugFldS {fo fe : ME} {s1 s2 : MS} {a b : List Nat} (ho : fo s = .ok (.v (.ref n)) s1) (h1 : s1.hp[n]? = some (.inst c fs)) (h2 : fs[j]? = some (some (.v (.str a)))) (he : fe s1 = .ok (.v (.str b)) s2) (h3 : s2.hp[n]? = some (.inst c fs)) (hz : a.length + b.length ≤ sizeLine) :
    mAugFld c j opIAdd fo fe s = .ok .next { s2 with hp := s2.hp.set n (.inst c (fs.set j (some (.v (.str (a ++ b)))))) } := by
  unfold mAugFld
  simp only [ho, Out.bind_ok, h1, if_true, h2, he]
  simp only [isScal, and_self, if_true, opIAdd, hz, Out.bind_ok]
  exact e_putS h3 (.inl (by rw [h2]; rfl))
end
/-! loops with a count -/
theorem forGo_ix {chk : MS → Prop} {tg : MG} {body : MSt} (P : Nat → MS → Prop) (hc : ∀ i s, P i s → chk s) : ∀ (xs : List MV) (m : Nat) (s : MS), P m s → (∀ i x, xs[i]? = some x → ∀ s, P (m + i) s → ∃ s1, tg x s = some s1 ∧ Ok (body s1) fun fl s2 => fl = .next ∧ P (m + i + 1) s2) →
    Ok (forGo chk tg body xs s) fun fl s2 => fl = .next ∧ P (m + xs.length) s2
  | [], m, s, p, _ => by unfold forGo; rw [if_pos (hc m s p)]; exact ⟨rfl, p⟩
  | x :: xs, m, s, p, h => by
    unfold forGo
    rw [if_pos (hc m s p)]
    obtain ⟨s1, e, k⟩ := h 0 x rfl s p
    obtain ⟨fl, s2, e2, rfl, p2⟩ := k.get
    rw [e]
    simp only [e2, Out.bind_ok]
    have := forGo_ix P hc xs (m + 1) s2 p2 fun i y hy s ps => by
      have := h (i + 1) y (by simpa using hy) s (by rw [show m + (i + 1) = m + 1 + i by omega]; exact ps)
      rwa [show m + (i + 1) + 1 = m + 1 + i + 1 by omega] at this
    rwa [show m + 1 + xs.length = m + (x :: xs).length by simp; omega] at this
/-- while with a bound -/
theorem while_ok {ft : MS → Out Bool} {fb : MSt} (P : Nat → MS → Prop) (Q : MS → Prop) (h : ∀ n s, P n s → (ft s = .ok false s ∧ Q s) ∨ ∃ m s2, n = m + 1 ∧ ft s = .ok true s ∧ fb s = .ok .next s2 ∧ P m s2) :
    ∀ n s, P n s → ∃ s', mWhile ft fb s = .ok .next s' ∧ Q s' := by
  have key : ∀ n s, P n s → ∃ s', whGo ft fb (n + 1) s = .ok .next s' ∧ Q s' := by
    intro n
    induction n with
    | zero =>
      intro s p
      rcases h 0 s p with ⟨e, q⟩ | ⟨m, s2, z, _⟩
      · exact ⟨s, by unfold whGo; simp [e], q⟩
      · omega
    | succ n ih =>
      intro s p
      rcases h (n + 1) s p with ⟨e, q⟩ | ⟨m, s2, z, e, e2, p2⟩
      · exact ⟨s, by unfold whGo; simp [e], q⟩
      · have : m = n := by omega
        subst this
        obtain ⟨s', e3, q⟩ := ih s2 p2
        refine ⟨s', ?_, q⟩
        rw [show whGo ft fb (m + 1 + 1) s = (ft s).bind fun b s1 => if b = true then (fb s1).bind fun fl s2 => match fl with
          | .next => whGo ft fb (m + 1) s2
          | .ret r => .ok (.ret r) s2 else .ok .next s1 from rfl]
        simp [e, e2, e3]
  intro n s p
  obtain ⟨s', e, q⟩ := key n s p
  exact ⟨s', by rw [while_eq (n := n + 1) (by rw [e]; simp), e], q⟩
/-! == of one and the same -/
mutual
theorem eqv_self : ∀ d : PyData, d.canLay0 = true → PyData.eqv d d = true
  | .none, _ => rfl
  | .bool b, _ => by simp [PyData.eqv]
  | .int i, _ => by simp [PyData.eqv]
  | .str x, _ => by simp [PyData.eqv]
  | .list xs, h => by unfold PyData.eqv; exact eqvAll_self xs (by simpa [PyData.canLay0] using h)
  | .tuple xs, h => by unfold PyData.eqv; exact eqvAll_self xs (by simpa [PyData.canLay0] using h)
  | .dict _, h => by simp [PyData.canLay0] at h
theorem eqvAll_self : ∀ ds : List PyData, PyData.canLayAll0 ds = true → PyData.eqvAll ds ds = true
  | [], _ => rfl
  | d :: ds, h => by
    simp only [PyData.canLayAll0, Bool.and_eq_true] at h
    unfold PyData.eqvAll
    rw [eqv_self d h.1, eqvAll_self ds h.2]; rfl
end
theorem e_eqSame {neg : Bool} {r1 r2 : RV} {s : MS} {d : PyData} (h1 : rpd s r1 = some d) (h2 : rpd s r2 = some d) (hs : SeqAt.shaped d = true) : opEqv neg r1 r2 s = .ok (.v (.bl (neg ^^ true))) s := by
  have : d.canLay0 = true := by unfold SeqAt.shaped at hs; exact (Bool.and_eq_true .. ▸ hs).1
  unfold opEqv
  simp only [h1, h2, hs, and_self, if_true, eqv_self d this]
/-! the scripts' pools -/
def PoolAt (hp : List MO) (n : Nat) : Prop := ∃ A B : Int, hp[n]? = some (.box (.lst [.int A, .int B])) ∧ 0 ≤ A ∧ 0 ≤ B ∧ B < 2147483647
/-- one place of the heap was written -/
def Fr (n : Nat) (hp hp' : List MO) : Prop := hp'.length = hp.length ∧ ∀ q, q ≠ n → hp'[q]? = hp[q]?
theorem Fr.refl {n : Nat} {hp : List MO} : Fr n hp hp := ⟨rfl, fun _ _ => rfl⟩
theorem Fr.trans {n : Nat} {hp hp1 hp2 : List MO} (a : Fr n hp hp1) (b : Fr n hp1 hp2) : Fr n hp hp2 := ⟨b.1.trans a.1, fun q h => (b.2 q h).trans (a.2 q h)⟩
theorem Fr.set {n : Nat} {hp : List MO} {o : MO} : Fr n hp (hp.set n o) := ⟨by simp, fun q h => by rw [List.getElem?_set_ne (Ne.symm h)]⟩
theorem ixN_at {l : Nat} {v : Int} (h0 : 0 ≤ v) (h1 : v < l) : ixN l v = some v.toNat := by
  unfold ixN; rw [if_pos h0, if_pos (by omega)]
theorem at_mem {α : Type} {xs : List α} {v : Int} (h0 : 0 ≤ v) (h1 : v < xs.length) : ∃ x, atI xs v = some x ∧ x ∈ xs := by
  have hl : v.toNat < xs.length := by omega
  exact ⟨xs[v.toNat], by unfold atI; rw [ixN_at h0 h1]; simp [hl], List.getElem_mem hl⟩
noncomputable def takeB (a c d : Int) : MSt := (mSeq (mIf (mTestB (mBin opGt (mBin opIxA (mVar 0) (mC (.int 0))) (mC (.int 0)))) (mSeq (mSet 2 (mBin opMod (mBin opIxA (mVar 0) (mC (.int 0))) (mVar 1))) (mSeq (mSetIxA (mBin opDiv (mBin opIxA (mVar 0) (mC (.int 0))) (mVar 1)) (mVar 0) (mC (.int 0))) (mRet (mVar 2)))) mNext) (mSeq (mSetIxA (mBin opMod (mBin opAdd (mBin opMul (mBin opIxA (mVar 0) (mC (.int 1))) (mC (.int a))) (mC (.int c))) (mC (.int 2147483647))) (mVar 0) (mC (.int 1))) (mRet (mBin opMod (mBin opDiv (mBin opMod (mBin opMul (mBin opIxA (mVar 0) (mC (.int 1))) (mBin opIxA (mVar 0) (mC (.int 1)))) (mC (.int 2147483629))) (mC (.int d))) (mVar 1)))))
theorem take_ok (a c d : Int) (ha : 0 ≤ a) (ha2 : a < 2 ^ 60) (hc : 0 ≤ c) (hd0 : 0 < d) (hd : d < 1073741824) (hp : List MO) (n : Nat) (m : Int) (h1 : 1 ≤ m) (h2 : m < 1073741824) (h : PoolAt hp n) :
    ∃ (v : Int) (hp' : List MO), runOf 3 (takeB a c d) [.ref n, .int m] hp = .ok (.v (.int v)) hp' ∧ 0 ≤ v ∧ v < m ∧ PoolAt hp' n ∧ Fr n hp hp' := by
  obtain ⟨A, B, e, hA, hB, hB2⟩ := h
  have hn : n < hp.length := (List.getElem?_eq_some_iff.mp e).1
  have hm : 0 < m := by omega
  have hcd : ∀ i, CDiv i m := fun i => ⟨hm, h2⟩
  have i0 : ∀ a b : MV, atI [a, b] 0 = some a := fun _ _ => rfl
  have i1 : ∀ a b : MV, atI [a, b] 1 = some b := fun _ _ => rfl
  have j0 : ∀ a b : MV, ixN [a, b].length 0 = some 0 := fun _ _ => rfl
  have j1 : ∀ a b : MV, ixN [a, b].length 1 = some 1 := fun _ _ => rfl
  by_cases hg : 0 < A
  · refine ⟨A % m, hp.set n (.box (.lst [.int (A / m), .int B])), by unfold takeB runOf env0; simp [e_ixAR (s := ⟨_, hp, _⟩) e, e_setAR (s := ⟨_, hp, _⟩) e (j0 _ _), i0, i1, hm, hcd, hg], Int.emod_nonneg _ (by omega), Int.emod_lt_of_pos _ hm, ⟨A / m, B, by simp [hn], Int.ediv_nonneg hA (by omega), hB, hB2⟩, Fr.set⟩
  · obtain ⟨B', hB'⟩ : ∃ x, x = (B * a + c) % 2147483647 := ⟨_, rfl⟩
    have b0' : 0 ≤ B' := by omega
    have b1' : B' < 2147483647 := by omega
    have e2 : (hp.set n (.box (.lst [.int A, .int B'])))[n]? = some (.box (.lst [.int A, .int B'])) := by simp [hn]
    have hdd : ∀ i, CDiv i d := fun i => ⟨hd0, hd⟩
    have hmm : CMul B' B' := .inl ⟨by omega, by omega⟩
    have hma : CMul B a := .inl ⟨by omega, by omega⟩
    refine ⟨B' * B' % 2147483629 / d % m, hp.set n (.box (.lst [.int A, .int B'])), by
      unfold takeB runOf env0
      simp [e_ixAR (s := ⟨_, hp, _⟩) e, e_setAR (s := ⟨_, hp, _⟩) e (j1 _ _), e_ixAR (s := ⟨_, hp.set n _, _⟩) e2, i0, i1, hm, hcd, hg, hma, ← hB', hdd, hmm], Int.emod_nonneg _ (by omega), Int.emod_lt_of_pos _ hm, ⟨A, B', e2, hA, b0', b1'⟩, Fr.set⟩
def Low (z : List Nat) : Prop := ∀ c ∈ z, 97 ≤ c ∧ c ≤ 122
theorem cut_map (ns : List Int) (lo hi : Option Int) : cutM (ns.map MV.int) lo hi = (cutM ns lo hi).map MV.int := by
  unfold cutM; simp
theorem cut_len {α : Type} (ns : List α) (lo hi : Option Int) : (cutM ns lo hi).length ≤ ns.length := by
  unfold cutM; simp; omega
theorem at0 (l : List Int) : ∃ c : Int, atI (l.map MV.int ++ [.int 0]) 0 = some (.int c) := by
  cases l with
  | nil => exact ⟨0, rfl⟩
  | cons x r => exact ⟨x, by
    have : ixN ((x :: r).map MV.int ++ [MV.int 0]).length 0 = some 0 := by
      unfold ixN; rw [if_pos (by decide), if_pos (by simp; omega)]; rfl
    unfold atI; rw [this]; rfl⟩
theorem low_text {z : List Nat} (h : Low z) : z.all (· < 0x110000) = true := by
  simp only [List.all_eq_true, decide_eq_true_eq]
  exact fun c hc => by have := h c hc; omega
end Mi
set_option Elab.async false
set_option linter.all false
set_option maxRecDepth 100000
set_option maxHeartbeats 4000000
namespace Mi
open PySem PySem.Spec PyProof.Rows L2
section
variable {s : MS} {n c : Nat} {xs : List MV} {f fo fa fb fc fe : ME} {fv fk : MS → Out (List MV)} {fs : MS → Out (List RV)} {run : Fn}
@[simp] theorem e_MethK {np nk : Nat} {idx : List Nat} : mMethK c run n np nk idx fo fv fk s = (fo s).bind fun r s1 => match r with
  | .v (.ref q) => match s1.hp[q]? with
    | some (.inst c' _) => if c' = c then (fv s1).bind fun xs s2 => (fk s2).bind fun ys s3 => if xs.length + 1 = np ∧ ys.length = nk ∧ (permL idx (.ref q :: xs ++ ys)).length = n then mRun run (permL idx (.ref q :: xs ++ ys)) s3 else .bad else .bad
    | _ => .bad
  | _ => .bad := rfl
@[simp] theorem e_MethD {dm : List MV} : mMethD c run n fo dm s = (fo s).bind fun r s1 => match r with
  | .v (.ref q) => match s1.hp[q]? with
    | some (.inst c' _) => if c' = c ∧ dm.length + 1 = n then mRun run (.ref q :: dm) s1 else .bad
    | _ => .bad
  | _ => .bad := rfl
@[simp] theorem e_AppO : mAppO fo fv s = (fo s).bind fun r s1 => match r with
  | .own (.lst xs) => (fv s1).bind fun rs s2 => match rs with
    | [_] => if xs.length < sizeLine then .ok (.v .non) s2 else .bad
    | _ => .bad
  | _ => .bad := rfl
@[simp] theorem e_Isi {T : String} : mIsi T f s = (f s).bind fun r s1 => pIsi T r s1 := rfl
@[simp] theorem isi_ii {i : Int} : pIsi "int" (.v (.int i)) s = .ok (.v (.bl true)) s := rfl
theorem kit_ib : kitB "int" "bool" = some false := by decide +kernel
@[simp] theorem isi_ib {i : Int} : pIsi "bool" (.v (.int i)) s = .ok (.v (.bl false)) s := by
  unfold pIsi
  rw [show (kindR s (.v (.int i))).bind (fun k => kitB k "bool") = some false from kit_ib]
@[simp] theorem isi_ss {z : List Nat} : pIsi "str" (.v (.str z)) s = .ok (.v (.bl true)) s := rfl
@[simp] theorem isi_tt : pIsi "tuple" (.v (.tup xs)) s = .ok (.v (.bl true)) s := rfl
@[simp] theorem isi_lo : pIsi "list" (.own (.lst xs)) s = .ok (.v (.bl true)) s := rfl
@[simp] theorem e_Chain {p p' : RV → RV → MS → Out RV} : mChain p p' fa fb fc s = (fa s).bind fun r1 s1 => (fb s1).bind fun r2 s2 => if isScal r2 = true then (p r1 r2 s2).bind fun z s3 => match z with
  | .v (.bl true) => (fc s3).bind fun r3 s4 => p' r2 r3 s4
  | .v (.bl false) => .ok (.v (.bl false)) s3
  | _ => .bad
  else .bad := rfl
@[simp] theorem scal_i {i : Int} : isScal (.v (.int i)) = true := rfl
@[simp] theorem scal_s {z : List Nat} : isScal (.v (.str z)) = true := rfl
@[simp] theorem e_Range2 : mRange2 fs s = (fs s).bind fun rs s1 => match rs with
  | [.v (.int a), .v (.int b)] => if -(2 ^ 62) ≤ a ∧ a < 2 ^ 62 ∧ -(2 ^ 62) ≤ b ∧ b < 2 ^ 62 then .ok ⟨(List.range (b - a).toNat).map fun i : Nat => .int (a + i), fun _ => True⟩ s1 else .bad
  | _ => .bad := rfl
theorem e_lenR (h : s.hp[n]? = some (.box (.lst xs))) : pLen [.v (.ref n)] s = .ok (.v (.int xs.length)) s := by
  have : seqOf s (.v (.ref n)) = some xs := by simp [seqOf, cont, h]
  show (match seqOf s (.v (.ref n)) with | some xs => Out.ok (RV.v (.int xs.length)) s | none => .bad) = _
  rw [this]
theorem e_lenF {fs : List (Option SV)} {j : Nat} (h : s.hp[n]? = some (.inst c fs)) (h2 : fs[j]? = some (some (.own (.lst xs)))) : pLen [.fld n j] s = .ok (.v (.int xs.length)) s := by
  have : seqOf s (.fld n j) = some xs := by simp [seqOf, cont, h, h2]
  show (match seqOf s (.fld n j) with | some xs => Out.ok (RV.v (.int xs.length)) s | none => .bad) = _
  rw [this]
theorem e_itR (h : s.hp[n]? = some (.box (.lst xs))) : itOf (.v (.ref n)) s = .ok ⟨xs, fun s' => s'.base = s.base ∧ seqOf s' (.v (.ref n)) = some xs⟩ s := by
  have : seqOf s (.v (.ref n)) = some xs := by simp [seqOf, cont, h]
  show itP (.v (.ref n)) s = _
  unfold itP
  rw [this]
theorem e_itF {fs : List (Option SV)} {j : Nat} (h : s.hp[n]? = some (.inst c fs)) (h2 : fs[j]? = some (some (.own (.lst xs)))) (hb : n < s.base) : itOf (.fld n j) s = .ok ⟨xs, fun s' => s'.base = s.base ∧ seqOf s' (.fld n j) = some xs⟩ s := by
  have : seqOf s (.fld n j) = some xs := by simp [seqOf, cont, h, h2]
  show (if n < s.base then itP (.fld n j) s else .bad) = _
  rw [if_pos hb]
  unfold itP
  rw [this]
theorem e_ixAF {fs : List (Option SV)} {j : Nat} {k : Int} (h : s.hp[n]? = some (.inst c fs)) (h2 : fs[j]? = some (some (.own (.lst xs)))) : opIxA (.fld n j) (.v (.int k)) s = match atI xs k with | some x => .ok (.v x) s | none => .bad := by
  have hd : dictOf s (.fld n j) = none := by simp [dictOf, cont, h, h2]
  have : seqOf s (.fld n j) = some xs := by simp [seqOf, cont, h, h2]
  unfold opIxA; rw [hd]
  show (match seqOf s (.fld n j) with | some xs => (match atI xs k with | some x => Out.ok (RV.v x) s | none => .bad) | none => .bad) = _
  rw [this]
/-- x.f.append(y) -/
theorem e_AppF {fs : List (Option SV)} {j : Nat} {y : MV} {s1 : MS} (ho : fo s = .ok (.fld n j) s) (h : s.hp[n]? = some (.inst c fs)) (h2 : fs[j]? = some (some (.own (.lst xs)))) (hy : fv s = .ok [y] s) (hz : xs.length < sizeLine) :
    mLM lAppend fo fv s = .ok (.v .non) { s with hp := s.hp.set n (.inst c (fs.set j (some (.own (.lst (xs ++ [y])))))) } := by
  unfold mLM
  simp [ho, place, h, h2, hy, lAppend, hz, putC, putFld]
theorem e_AppR {y : MV} {s2 : MS} (ho : fo s = .ok (.v (.ref n)) s) (h : s.hp[n]? = some (.box (.lst xs))) (hy : fv s = .ok [y] s) (hz : xs.length < sizeLine) :
    mLM lAppend fo fv s = .ok (.v .non) { s with hp := s.hp.set n (.box (.lst (xs ++ [y]))) } := by
  unfold mLM
  simp [ho, place, h, hy, lAppend, hz, putC]
end
theorem bls_true (z : List MV) : ∀ k : Nat, blsOf (List.replicate k (.bl true)) = some (List.replicate k true)
  | 0 => rfl
  | k + 1 => by
    rw [List.replicate_succ, List.replicate_succ]
    show (blsOf (List.replicate k (.bl true))).map (true :: ·) = _
    rw [bls_true z k]; rfl
/-! lists of data -/
theorem pds_map {α : Type} {f : α → MV} {g : α → PyData} : ∀ L : List α, (∀ a ∈ L, pd (f a) = some (g a)) → pds (L.map f) = some (L.map g)
  | [], _ => rfl
  | a :: L, h => by
    show (match pd (f a), pds (L.map f) with | some d, some ds => some (d :: ds) | _, _ => none) = _
    rw [h a (List.mem_cons_self ..), pds_map L fun b hb => h b (List.mem_cons_of_mem _ hb)]
    rfl
theorem canLay_map {α : Type} {g : α → PyData} : ∀ L : List α, (∀ a ∈ L, (g a).canLay0 = true) → PyData.canLayAll0 (L.map g) = true
  | [], _ => rfl
  | a :: L, h => by
    simp only [List.map_cons, PyData.canLayAll0, Bool.and_eq_true]
    exact ⟨h a (List.mem_cons_self ..), canLay_map L fun b hb => h b (List.mem_cons_of_mem _ hb)⟩
theorem depth_map {α : Type} {g : α → PyData} {D : Nat} : ∀ L : List α, (∀ a ∈ L, (g a).depth ≤ D) → PyData.depthAll (L.map g) ≤ D
  | [], _ => Nat.zero_le _
  | a :: L, h => by
    simp only [List.map_cons, PyData.depthAll]
    exact Nat.max_le.mpr ⟨h a (List.mem_cons_self ..), depth_map L fun b hb => h b (List.mem_cons_of_mem _ hb)⟩
theorem shaped_map {α : Type} {g : α → PyData} (L : List α) (h : ∀ a ∈ L, (g a).canLay0 = true ∧ (g a).depth ≤ 60) : SeqAt.shaped (.list (L.map g)) = true := by
  have h1 := canLay_map L fun a ha => (h a ha).1
  have h2 := depth_map L fun a ha => (h a ha).2
  unfold SeqAt.shaped
  rw [Bool.and_eq_true]
  refine ⟨by simpa [PyData.canLay0] using h1, ?_⟩
  rw [decide_eq_true_eq]
  show PyData.depthAll (L.map g) + 1 ≤ 64
  omega
/-- two equal lists of data -/
theorem e_eqList {α : Type} {f : α → MV} {g : α → PyData} {neg : Bool} {s : MS} (L : List α) (h : ∀ a ∈ L, pd (f a) = some (g a) ∧ (g a).canLay0 = true ∧ (g a).depth ≤ 60) :
    opEqv neg (.own (.lst (L.map f))) (.own (.lst (L.map f))) s = .ok (.v (.bl (neg ^^ true))) s := by
  have hr : rpd s (.own (.lst (L.map f))) = some (.list (L.map g)) := by
    show (pds (L.map f)).map PyData.list = _
    rw [pds_map L fun a ha => (h a ha).1]; rfl
  exact e_eqSame hr hr (shaped_map L fun a ha => (h a ha).2)
theorem strOk_low {z : List Nat} (h : Low z) : PyData.strOk ⟨z.toArray⟩ = true := by have := low_text h; simpa [PyData.strOk] using this
/-! the weight of signs -/
abbrev ABC : List Nat := [97, 98, 99, 100, 101, 102, 103, 104, 105, 106, 107, 108, 109, 110, 111, 112, 113, 114, 115, 116, 117, 118, 119, 120, 121, 122]
theorem abc_mem {c : Nat} (h1 : 97 ≤ c) (h2 : c ≤ 122) : c ∈ ABC := by
  have : ∀ k : Fin 26, 97 + k.val ∈ ABC := by decide
  have := this ⟨c - 97, by omega⟩
  rwa [show 97 + (c - 97) = c by omega] at this
def wt (p : Nat × Nat) : Int := (1 + (p.2 : Nat)) * (1 + ((p.1 - 97 : Nat) : Int))
def wsum (z : List Nat) : Int := (z.zipIdx.map wt).sum
theorem zip_mem {z : List Nat} {p : Nat × Nat} (h : p ∈ z.zipIdx) : p.2 < z.length ∧ p.1 ∈ z := by
  obtain ⟨i, hi⟩ := List.mem_iff_getElem?.mp h
  simp only [List.getElem?_zipIdx, Option.map_eq_some_iff] at hi
  obtain ⟨a, ha, e⟩ := hi
  subst e
  exact ⟨by simpa using (List.getElem?_eq_some_iff.mp ha).1, List.mem_of_getElem? ha⟩
theorem occ26 : ∀ k : Fin 26, ∃ r, Builtin.Str.occurrences ⟨List.toArray ABC⟩ ⟨List.toArray [97 + k.val]⟩ 0 26 1 = k.val :: r := by
  have : ∀ k : Fin 26, Builtin.Str.occurrences ⟨List.toArray ABC⟩ ⟨List.toArray [97 + k.val]⟩ 0 26 1 = [k.val] := by decide +kernel
  exact fun k => ⟨[], this k⟩
theorem index26 {c : Nat} {s : MS} (h1 : 97 ≤ c) (h2 : c ≤ 122) : pIndexS ABC [.v (.str [c])] s = .ok (.v (.int ((c - 97 : Nat) : Int))) s := by
  obtain ⟨r, e⟩ := occ26 ⟨c - 97, by omega⟩
  have e1 : 97 + (c - 97) = c := by omega
  simp only [e1] at e
  have e2 : ∀ y : List Nat, pIndexS ABC [.v (.str y)] s = match Builtin.Str.occurrences ⟨List.toArray ABC⟩ ⟨y.toArray⟩ 0 26 1 with | i :: _ => .ok (.v (.int i)) s | [] => .bad := fun _ => rfl
  rw [e2, e]
noncomputable def sumB : MSt := (mRet (mCallB pSum (mCons (mLc [1, 2] (mEnum 1 (mVar 0)) (gT 2 (gsCons (gN 1) (gsCons (gN 2) gsNil))) mYes (mBin opMul (mVar 1) (mBin opAdd (mC (.int 1)) (mSM pIndexS (mC (.str ABC)) (mCons (mVar 2) (fun s => .ok [] s)))))) (fun s => .ok [] s))))
theorem sum_ok (z : List Nat) (hz : z.length ≤ 1000) (hl : Low z) (hp : List MO) : runOf 3 sumB [.str z] hp = .ok (.v (.int (wsum z))) hp := by
  have key := lcGo_map (vs := [1, 2]) (chk := fun _ => True) (tg := gT 2 (gsCons (gN 1) (gsCons (gN 2) gsNil))) (te := mBin opMul (mVar 1) (mBin opAdd (mC (.int 1)) (mSM pIndexS (mC (.str ABC)) (mCons (mVar 2) (fun s => .ok [] s)))))
    (fun p : Nat × Nat => .tup [.int (1 + (p.2 : Nat)), .str [p.1]]) (fun p => .int (wt p)) ⟨[some (.v (.str z)), none, none], hp, hp.length⟩ trivial z.zipIdx [] (line1000 (by simpa using hz)) (fun p hp => by
      obtain ⟨h1, h2⟩ := zip_mem hp
      obtain ⟨l1, l2⟩ := hl _ h2
      have hm : CMul (1 + (p.2 : Int)) (1 + ((p.1 - 97 : Nat) : Int)) := .inr ⟨by omega, by omega⟩
      refine ⟨_, _, rfl, by simp [index26 l1 l2, hm]; exact ⟨rfl, rfl⟩, by simp [wipeM]⟩)
  unfold sumB runOf env0
  simp [e_Lc, e_Mt, enum_map, wipeM, key, backEnv, e_sumO (ints_map wt z.zipIdx), wsum]
end Mi
set_option Elab.async false
set_option linter.all false
set_option maxRecDepth 100000
set_option maxHeartbeats 4000000
namespace Mi
open PySem PySem.Spec PyProof.Rows L2
/-! a comprehension with a test -/
theorem lcGo_filt {α : Type} {vs : List Nat} {chk : MS → Prop} {tg : MG} {tt : MS → Out Bool} {te : ME} (F g : α → MV) (p : α → Bool) (s0 : MS) (hc : chk s0) : ∀ (L : List α) (acc : List MV), acc.length + L.length ≤ sizeLine →
    (∀ a ∈ L, ∃ s1 s2, tg (F a) s0 = some s1 ∧ tt s1 = .ok (p a) s2 ∧ (p a = false → { s2 with env := wipeM s2.env vs } = s0) ∧ (p a = true → ∃ s3, mSh te s2 = .ok (g a) s3 ∧ { s3 with env := wipeM s3.env vs } = s0)) →
    lcGo vs chk tg tt te (L.map F) acc s0 = .ok (acc ++ (L.filter p).map g) s0
  | [], acc, _, _ => by unfold lcGo; simp [hc]
  | a :: L, acc, hz, h => by
    obtain ⟨s1, s2, e1, e2, e3, e4⟩ := h a (List.mem_cons_self ..)
    simp only [List.length_cons] at hz
    rw [List.map_cons]
    unfold lcGo
    rw [if_pos hc, e1]
    simp only [e2, Out.bind_ok]
    cases hp : p a with
    | false =>
      simp only [Bool.false_eq_true, if_false]
      rw [e3 hp, lcGo_filt F g p s0 hc L acc (by omega) fun b hb => h b (List.mem_cons_of_mem _ hb)]
      simp [List.filter_cons, hp]
    | true =>
      obtain ⟨s3, e5, e6⟩ := e4 hp
      simp only [if_true, e5, Out.bind_ok]
      rw [if_pos (by omega), e6, lcGo_filt F g p s0 hc L (acc ++ [g a]) (by simp; omega) fun b hb => h b (List.mem_cons_of_mem _ hb)]
      simp [List.filter_cons, hp]
theorem e_eqGen {neg : Bool} {r1 r2 : RV} {s : MS} {d1 d2 : PyData} (h1 : rpd s r1 = some d1) (h2 : rpd s r2 = some d2) (hs : SeqAt.shaped d1 = true) (hs2 : SeqAt.shaped d2 = true) : opEqv neg r1 r2 s = .ok (.v (.bl (neg ^^ PyData.eqv d1 d2))) s := by
  unfold opEqv
  simp only [h1, h2, hs, hs2, and_self, if_true]
theorem bls_mapB {α : Type} (p : α → Bool) : ∀ L : List α, blsOf (L.map fun a => MV.bl (p a)) = some (L.map p)
  | [] => rfl
  | a :: L => by
    show (blsOf (L.map fun a => MV.bl (p a))).map (p a :: ·) = _
    rw [bls_mapB p L]; rfl
theorem e_allO {α : Type} (p : α → Bool) (L : List α) (s : MS) : pAll (·.all id) [.own (.lst (L.map fun a => MV.bl (p a)))] s = .ok (.v (.bl (L.all p))) s := by
  have : (lstOf s (.own (.lst (L.map fun a => MV.bl (p a))))).bind blsOf = some (L.map p) := bls_mapB p L
  unfold pAll
  simp only [this]
  simp [List.all_map, Function.comp_def]
theorem le1 {a c : Nat} {s : MS} : opLe2 (.v (.str [a])) (.v (.str [c])) s = .ok (.v (.bl (decide (a ≤ c)))) s := by
  show Out.ok (RV.v (MV.bl (!decide (([c] : List Nat) < [a])))) s = _
  have : (([c] : List Nat) < [a]) ↔ c < a := by simp [List.cons_lt_cons_iff]
  by_cases h : c < a
  · rw [decide_eq_true (this.mpr h), decide_eq_false (by omega)]; rfl
  · rw [decide_eq_false (fun z => h (this.mp z)), decide_eq_true (by omega)]; rfl
theorem abc_iff {c : Nat} : c ∈ ABC ↔ 97 ≤ c ∧ c ≤ 122 := ⟨fun h => by simp at h; omega, fun ⟨a, b⟩ => abc_mem a b⟩
theorem in_ABC {c : Nat} {s : MS} : opInA false (.v (.str [c])) (.v (.str ABC)) s = .ok (.v (.bl (decide (97 ≤ c ∧ c ≤ 122)))) s := by
  show Out.ok (RV.v (MV.bl (false ^^ decide (c ∈ ABC)))) s = _
  rw [show decide (c ∈ ABC) = decide (97 ≤ c ∧ c ≤ 122) from decide_eq_decide.mpr abc_iff, Bool.false_xor]
/-! isinstance of any value that is no object -/
def nref : MV → Prop
  | .ref _ => False
  | .dct ks vs => ks.length = vs.length
  | _ => True
def isI : MV → Bool
  | .int _ => true
  | .bl _ => true
  | _ => false
def isB : MV → Bool
  | .bl _ => true
  | _ => false
def isS : MV → Bool
  | .str _ => true
  | _ => false
def isT : MV → Bool
  | .tup _ => true
  | _ => false
theorem kd {ks vs : List MV} {s : MS} (h : nref (.dct ks vs)) : kindR s (.v (.dct ks vs)) = some "dict" := by
  have h : ks.length = vs.length := h
  show (match (if ks.length = vs.length then some (C.dict (ks.zip vs)) else none) with | some (.lst _) => some "list" | some (.dict _) => some "dict" | _ => none) = _
  rw [if_pos h]
theorem isi_I {v : MV} {s : MS} (h : nref v) : pIsi "int" (.v v) s = .ok (.v (.bl (isI v))) s := by
  cases v with
  | dct ks vs => unfold pIsi; rw [kd h, show ((some "dict").bind fun k => kitB k "int") = some false by decide +kernel]; rfl
  | ref n => exact h.elim
  | non => unfold pIsi; rw [show ((kindR s (.v .non)).bind fun k => kitB k "int") = some false from (by decide +kernel : kitB "NoneType" "int" = some false)]; rfl
  | str z => unfold pIsi; rw [show ((kindR s (.v (.str z))).bind fun k => kitB k "int") = some false from (by decide +kernel : kitB "str" "int" = some false)]; rfl
  | tup z => unfold pIsi; rw [show ((kindR s (.v (.tup z))).bind fun k => kitB k "int") = some false from (by decide +kernel : kitB "tuple" "int" = some false)]; rfl
  | lst z => unfold pIsi; rw [show ((kindR s (.v (.lst z))).bind fun k => kitB k "int") = some false from (by decide +kernel : kitB "list" "int" = some false)]; rfl
  | int z => rfl
  | bl z => unfold pIsi; rw [show ((kindR s (.v (.bl z))).bind fun k => kitB k "int") = some true from (by decide +kernel : kitB "bool" "int" = some true)]; rfl
theorem isi_B {v : MV} {s : MS} (h : nref v) : pIsi "bool" (.v v) s = .ok (.v (.bl (isB v))) s := by
  cases v with
  | dct ks vs => unfold pIsi; rw [kd h, show ((some "dict").bind fun k => kitB k "bool") = some false by decide +kernel]; rfl
  | ref n => exact h.elim
  | non => unfold pIsi; rw [show ((kindR s (.v .non)).bind fun k => kitB k "bool") = some false from (by decide +kernel : kitB "NoneType" "bool" = some false)]; rfl
  | str z => unfold pIsi; rw [show ((kindR s (.v (.str z))).bind fun k => kitB k "bool") = some false from (by decide +kernel : kitB "str" "bool" = some false)]; rfl
  | tup z => unfold pIsi; rw [show ((kindR s (.v (.tup z))).bind fun k => kitB k "bool") = some false from (by decide +kernel : kitB "tuple" "bool" = some false)]; rfl
  | lst z => unfold pIsi; rw [show ((kindR s (.v (.lst z))).bind fun k => kitB k "bool") = some false from (by decide +kernel : kitB "list" "bool" = some false)]; rfl
  | int z => unfold pIsi; rw [show ((kindR s (.v (.int z))).bind fun k => kitB k "bool") = some false from (by decide +kernel : kitB "int" "bool" = some false)]; rfl
  | bl z => rfl
theorem isi_S {v : MV} {s : MS} (h : nref v) : pIsi "str" (.v v) s = .ok (.v (.bl (isS v))) s := by
  cases v with
  | dct ks vs => unfold pIsi; rw [kd h, show ((some "dict").bind fun k => kitB k "str") = some false by decide +kernel]; rfl
  | ref n => exact h.elim
  | non => unfold pIsi; rw [show ((kindR s (.v .non)).bind fun k => kitB k "str") = some false from (by decide +kernel : kitB "NoneType" "str" = some false)]; rfl
  | str z => rfl
  | tup z => unfold pIsi; rw [show ((kindR s (.v (.tup z))).bind fun k => kitB k "str") = some false from (by decide +kernel : kitB "tuple" "str" = some false)]; rfl
  | lst z => unfold pIsi; rw [show ((kindR s (.v (.lst z))).bind fun k => kitB k "str") = some false from (by decide +kernel : kitB "list" "str" = some false)]; rfl
  | int z => unfold pIsi; rw [show ((kindR s (.v (.int z))).bind fun k => kitB k "str") = some false from (by decide +kernel : kitB "int" "str" = some false)]; rfl
  | bl z => unfold pIsi; rw [show ((kindR s (.v (.bl z))).bind fun k => kitB k "str") = some false from (by decide +kernel : kitB "bool" "str" = some false)]; rfl
theorem isi_T {v : MV} {s : MS} (h : nref v) : pIsi "tuple" (.v v) s = .ok (.v (.bl (isT v))) s := by
  cases v with
  | dct ks vs => unfold pIsi; rw [kd h, show ((some "dict").bind fun k => kitB k "tuple") = some false by decide +kernel]; rfl
  | ref n => exact h.elim
  | non => unfold pIsi; rw [show ((kindR s (.v .non)).bind fun k => kitB k "tuple") = some false from (by decide +kernel : kitB "NoneType" "tuple" = some false)]; rfl
  | str z => unfold pIsi; rw [show ((kindR s (.v (.str z))).bind fun k => kitB k "tuple") = some false from (by decide +kernel : kitB "str" "tuple" = some false)]; rfl
  | tup z => rfl
  | lst z => unfold pIsi; rw [show ((kindR s (.v (.lst z))).bind fun k => kitB k "tuple") = some false from (by decide +kernel : kitB "list" "tuple" = some false)]; rfl
  | int z => unfold pIsi; rw [show ((kindR s (.v (.int z))).bind fun k => kitB k "tuple") = some false from (by decide +kernel : kitB "int" "tuple" = some false)]; rfl
  | bl z => unfold pIsi; rw [show ((kindR s (.v (.bl z))).bind fun k => kitB k "tuple") = some false from (by decide +kernel : kitB "bool" "tuple" = some false)]; rfl
end Mi
set_option Elab.async false
set_option linter.all false
set_option maxRecDepth 100000
set_option maxHeartbeats 4000000
namespace Mi
open PySem PySem.Spec PyProof.Rows L2
/-! evaluation by what stands in the heap: the rules compute on hp[n]? -/
theorem szl : sizeLine = 16777216 := by decide
section
variable {s : MS} {n c j i : Nat} {k : MV} {r : RV} {x : MV} {xs ys : List MV} {kvs : List (MV × MV)} {f fo fe fa fb : ME} {fv : MS → Out (List MV)} {fs : MS → Out (List RV)} {z : List Nat}
theorem cont_ref : cont s (.v (.ref n)) = match s.hp[n]? with | some (.box c) => some c | _ => none := rfl
theorem cont_fld : cont s (.fld n j) = match s.hp[n]? with
    | some (.inst _ fs) => match fs[j]? with | some (some (.own c)) => some c | _ => none
    | _ => none := rfl
theorem cont_loc : cont s (.loc i) = match s.env[i]? with | some (some (.own c)) => some c | _ => none := rfl
theorem cont_own {C : C} : cont s (.own C) = some C := rfl
theorem cont_lst : cont s (.v (.lst xs)) = some (.lst xs) := rfl
theorem dictOf_d : dictOf s r = match cont s r with | some (.dict kvs) => some kvs | some (.lock kvs) => some kvs | _ => none := rfl
@[simp] theorem dictOf_ref : dictOf s (.v (.ref n)) = match s.hp[n]? with | some (.box (.dict kvs)) => some kvs | some (.box (.lock kvs)) => some kvs | _ => none := by
  unfold dictOf; rw [cont_ref]
  generalize s.hp[n]? = g0
  cases g0 with
  | none => rfl
  | some o => cases o with
    | inst _ _ => rfl
    | exc _ => rfl
    | box C => cases C <;> rfl
@[simp] theorem dictOf_fld : dictOf s (.fld n j) = match s.hp[n]? with
    | some (.inst _ fs) => (match fs[j]? with | some (some (.own (.dict kvs))) => some kvs | some (some (.own (.lock kvs))) => some kvs | _ => none)
    | _ => none := by
  unfold dictOf; rw [cont_fld]
  generalize s.hp[n]? = g0
  cases g0 with
  | none => rfl
  | some o => cases o with
    | box C => rfl
    | exc _ => rfl
    | inst c fs =>
      show (match (match fs[j]? with | some (some (.own c)) => some c | _ => none) with | some (C.dict kvs) => some kvs | some (.lock kvs) => some kvs | _ => none) = _
      try dsimp only
      generalize fs[j]? = g0
      rcases g0 with _ | _ | u
      · rfl
      · rfl
      · cases u with
        | v x => rfl
        | own C => cases C <;> rfl
@[simp] theorem dictOf_loc : dictOf s (.loc i) = match s.env[i]? with | some (some (.own (.dict kvs))) => some kvs | some (some (.own (.lock kvs))) => some kvs | _ => none := by
  unfold dictOf; rw [cont_loc]
  try dsimp only
  generalize s.env[i]? = g0
  rcases g0 with _ | _ | u
  · rfl
  · rfl
  · cases u with
    | v x => rfl
    | own C => cases C <;> rfl
@[simp] theorem dictOf_own {kvs : List (MV × MV)} : dictOf s (.own (.dict kvs)) = some kvs := rfl
@[simp] theorem dictOf_dct {ks vs : List MV} (h : ks.length = vs.length) : dictOf s (.v (.dct ks vs)) = some (ks.zip vs) := by unfold dictOf cont; simp [h]
@[simp] theorem dictOf_dctm : dictOf s (.v (.dct (kvs.map (·.1)) (kvs.map (·.2)))) = some kvs := by
  rw [dictOf_dct (by simp)]; congr 1
  induction kvs with
  | nil => rfl
  | cons p r ih => simp [ih]
@[simp] theorem dictOf_int {v : Int} : dictOf s (.v (.int v)) = none := rfl
@[simp] theorem dictOf_non : dictOf s (.v .non) = none := rfl
@[simp] theorem seqOf_ref : seqOf s (.v (.ref n)) = match s.hp[n]? with | some (.box (.lst xs)) => some xs | _ => none := by
  show (match cont s (.v (.ref n)) with | some (.lst xs) => some xs | _ => none) = _
  rw [cont_ref]
  generalize s.hp[n]? = g0
  cases g0 with
  | none => rfl
  | some o => cases o with
    | inst _ _ => rfl
    | exc _ => rfl
    | box C => cases C <;> rfl
@[simp] theorem seqOf_fld : seqOf s (.fld n j) = match s.hp[n]? with
    | some (.inst _ fs) => (match fs[j]? with | some (some (.own (.lst xs))) => some xs | _ => none)
    | _ => none := by
  show (match cont s (.fld n j) with | some (.lst xs) => some xs | _ => none) = _
  rw [cont_fld]
  generalize s.hp[n]? = g0
  cases g0 with
  | none => rfl
  | some o => cases o with
    | box C => rfl
    | exc _ => rfl
    | inst c fs =>
      show (match (match fs[j]? with | some (some (.own c)) => some c | _ => none) with | some (C.lst xs) => some xs | _ => none) = _
      try dsimp only
      generalize fs[j]? = g0
      rcases g0 with _ | _ | u
      · rfl
      · rfl
      · cases u with
        | v x => rfl
        | own C => cases C <;> rfl
@[simp] theorem seqOf_loc : seqOf s (.loc i) = match s.env[i]? with | some (some (.own (.lst xs))) => some xs | _ => none := by
  show (match cont s (.loc i) with | some (.lst xs) => some xs | _ => none) = _
  rw [cont_loc]
  try dsimp only
  generalize s.env[i]? = g0
  rcases g0 with _ | _ | u
  · rfl
  · rfl
  · cases u with
    | v x => rfl
    | own C => cases C <;> rfl
@[simp] theorem seqOf_own : seqOf s (.own (.lst xs)) = some xs := rfl
@[simp] theorem seqOf_lst : seqOf s (.v (.lst xs)) = some xs := rfl
@[simp] theorem seqOf_tup : seqOf s (.v (.tup xs)) = some xs := rfl
@[simp] theorem lstOf_own : lstOf s (.own (.lst xs)) = some xs := rfl
@[simp] theorem lstOf_lst : lstOf s (.v (.lst xs)) = some xs := rfl
theorem lstOf_eq : (∀ ys, r ≠ .v (.tup ys)) → lstOf s r = seqOf s r := fun h => by
  cases r with
  | v x => cases x with
    | tup ys => exact absurd rfl (h ys)
    | _ => rfl
  | _ => rfl
@[simp] theorem lstOf_ref : lstOf s (.v (.ref n)) = match s.hp[n]? with | some (.box (.lst xs)) => some xs | _ => none := by rw [lstOf_eq (by simp), seqOf_ref]
@[simp] theorem lstOf_loc : lstOf s (.loc i) = match s.env[i]? with | some (some (.own (.lst xs))) => some xs | _ => none := by rw [lstOf_eq (by simp), seqOf_loc]
@[simp] theorem lstOf_fld : lstOf s (.fld n j) = match s.hp[n]? with
    | some (.inst _ fs) => (match fs[j]? with | some (some (.own (.lst xs))) => some xs | _ => none)
    | _ => none := by rw [lstOf_eq (by simp), seqOf_fld]
@[simp] theorem place_ref : place s (.v (.ref n)) = match s.hp[n]? with | some (.box c) => some c | _ => none := rfl
@[simp] theorem place_loc : place s (.loc i) = match s.env[i]? with | some (some (.own c)) => some c | _ => none := rfl
@[simp] theorem place_fld : place s (.fld n j) = match s.hp[n]? with
    | some (.inst _ fs) => match fs[j]? with | some (some (.own c)) => some c | _ => none
    | _ => none := rfl
@[simp] theorem putC_ref {C : C} : putC s (.v (.ref n)) C = { s with hp := s.hp.set n (.box C) } := rfl
@[simp] theorem putC_loc {C : C} : putC s (.loc i) C = { s with env := s.env.set i (some (.own C)) } := rfl
@[simp] theorem putC_fld {C : C} : putC s (.fld n j) C = { s with hp := match s.hp[n]? with
  | some (.inst c fs) => s.hp.set n (.inst c (fs.set j (some (.own C))))
  | _ => s.hp } := rfl
theorem ixA_d : opIxA r (.v k) s = match dictOf s r with
  | some kvs => (match keyOf k with
      | some _ => match getK kvs k with | some x => .ok (.v x) s | none => .bad
      | none => .bad)
  | none => opIx r (.v k) s := rfl
@[simp] theorem ixA_ref : opIxA (.v (.ref n)) (.v k) s = match dictOf s (.v (.ref n)) with
  | some kvs => (match keyOf k with
      | some _ => match getK kvs k with | some x => .ok (.v x) s | none => .bad
      | none => .bad)
  | none => opIx (.v (.ref n)) (.v k) s := rfl
@[simp] theorem ixA_fld : opIxA (.fld n j) (.v k) s = match dictOf s (.fld n j) with
  | some kvs => (match keyOf k with
      | some _ => match getK kvs k with | some x => .ok (.v x) s | none => .bad
      | none => .bad)
  | none => opIx (.fld n j) (.v k) s := rfl
@[simp] theorem ixA_loc : opIxA (.loc i) (.v k) s = match dictOf s (.loc i) with
  | some kvs => (match keyOf k with
      | some _ => match getK kvs k with | some x => .ok (.v x) s | none => .bad
      | none => .bad)
  | none => opIx (.loc i) (.v k) s := rfl
@[simp] theorem ixA_own {kvs : List (MV × MV)} : opIxA (.own (.dict kvs)) (.v k) s = (match keyOf k with
      | some _ => match getK kvs k with | some x => .ok (.v x) s | none => .bad
      | none => .bad) := rfl
@[simp] theorem ixA_dctm : opIxA (.v (.dct (kvs.map (·.1)) (kvs.map (·.2)))) (.v k) s = (match keyOf k with
      | some _ => match getK kvs k with | some x => .ok (.v x) s | none => .bad
      | none => .bad) := by rw [ixA_d, dictOf_dctm]
@[simp] theorem ix_ref {v : Int} : opIx (.v (.ref n)) (.v (.int v)) s = match seqOf s (.v (.ref n)) with
      | some xs => match atI xs v with | some x => .ok (.v x) s | none => .bad
      | none => .bad := rfl
@[simp] theorem ix_loc {v : Int} : opIx (.loc i) (.v (.int v)) s = match seqOf s (.loc i) with
      | some xs => match atI xs v with | some x => .ok (.v x) s | none => .bad
      | none => .bad := rfl
@[simp] theorem ix_fld {v : Int} : opIx (.fld n j) (.v (.int v)) s = match seqOf s (.fld n j) with
      | some xs => match atI xs v with | some x => .ok (.v x) s | none => .bad
      | none => .bad := rfl
theorem inA_d {neg : Bool} : opInA neg (.v k) r s = match dictOf s r with
  | some kvs => (match keyOf k with
      | some _ => .ok (.v (.bl (neg ^^ (getK kvs k).isSome))) s
      | none => .bad)
  | none => opIn neg (.v k) r s := rfl
@[simp] theorem inA_ref {neg : Bool} : opInA neg (.v k) (.v (.ref n)) s = match dictOf s (.v (.ref n)) with
  | some kvs => (match keyOf k with
      | some _ => .ok (.v (.bl (neg ^^ (getK kvs k).isSome))) s
      | none => .bad)
  | none => opIn neg (.v k) (.v (.ref n)) s := rfl
@[simp] theorem inA_fld {neg : Bool} : opInA neg (.v k) (.fld n j) s = match dictOf s (.fld n j) with
  | some kvs => (match keyOf k with
      | some _ => .ok (.v (.bl (neg ^^ (getK kvs k).isSome))) s
      | none => .bad)
  | none => opIn neg (.v k) (.fld n j) s := rfl
@[simp] theorem inA_loc {neg : Bool} : opInA neg (.v k) (.loc i) s = match dictOf s (.loc i) with
  | some kvs => (match keyOf k with
      | some _ => .ok (.v (.bl (neg ^^ (getK kvs k).isSome))) s
      | none => .bad)
  | none => opIn neg (.v k) (.loc i) s := rfl
@[simp] theorem inA_dct {neg : Bool} : opInA neg (.v k) (.v (.dct xs ys)) s = match dictOf s (.v (.dct xs ys)) with
  | some kvs => (match keyOf k with
      | some _ => .ok (.v (.bl (neg ^^ (getK kvs k).isSome))) s
      | none => .bad)
  | none => opIn neg (.v k) (.v (.dct xs ys)) s := rfl
@[simp] theorem inA_tup {neg : Bool} : opInA neg (.v k) (.v (.tup xs)) s = opIn neg (.v k) (.v (.tup xs)) s := rfl
@[simp] theorem inA_lst {neg : Bool} : opInA neg (.v k) (.v (.lst xs)) s = opIn neg (.v k) (.v (.lst xs)) s := rfl
@[simp] theorem inA_own {neg : Bool} : opInA neg (.v k) (.own (.lst xs)) s = opIn neg (.v k) (.own (.lst xs)) s := rfl
@[simp] theorem e_TopL {g : Int → Int → Bool} : pTopL g [r] s = match ((lstOf s r).bind intsOf).bind (topL g) with | some m => .ok (.v (.int m)) s | none => .bad := rfl
@[simp] theorem e_listD : pListD [r] s = match dictOf s r with | some kvs => .ok (.own (.lst (kvs.map (·.1)))) s | none => .bad := rfl
@[simp] theorem e_AsgF {n : Nat} {ft : List MV → MS → Option MS} : mAsgF fv n ft s = (fv s).bind fun xs s1 => if xs.length = n ∧ n ≤ sizeLine then (match ft xs s1 with | some s2 => .ok .next s2 | none => .bad) else .bad := rfl
@[simp] theorem setA_ref : setIxA (.v (.ref n)) (.v k) x s = match s.hp[n]? with
  | some (.box (.dict kvs)) => (match keyOf k with
      | some _ => if kvs.length < sizeLine then .ok .next { s with hp := s.hp.set n (.box (.dict (setK kvs k x))) } else .bad
      | none => .bad)
  | some (.box (.lst xs)) => (match k with
    | .int q => match ixN xs.length q with
      | some j => .ok .next { s with hp := s.hp.set n (.box (.lst (xs.set j x))) }
      | none => .bad
    | _ => .bad)
  | _ => .bad := by
  unfold setIxA; rw [place_ref]
  generalize s.hp[n]? = g0
  cases g0 with
  | none => rfl
  | some o => cases o with
    | inst _ _ => rfl
    | exc _ => rfl
    | box C => cases C with
      | lst xs => cases k <;> rfl
      | dict kvs => rfl
      | lock kvs => rfl
@[simp] theorem setA_fld : setIxA (.fld n j) (.v k) x s = match s.hp[n]? with
  | some (.inst c fs) => (match fs[j]? with
    | some (some (.own (.dict kvs))) => (match keyOf k with
      | some _ => if kvs.length < sizeLine then .ok .next { s with hp := s.hp.set n (.inst c (fs.set j (some (.own (.dict (setK kvs k x)))))) } else .bad
      | none => .bad)
    | some (some (.own (.lst xs))) => (match k with
      | .int q => match ixN xs.length q with
        | some l => .ok .next { s with hp := s.hp.set n (.inst c (fs.set j (some (.own (.lst (xs.set l x)))))) }
        | none => .bad
      | _ => .bad)
    | _ => .bad)
  | _ => .bad := by
  unfold setIxA; rw [place_fld]
  cases h : s.hp[n]? with
  | none => rfl
  | some o => cases o with
    | box C => rfl
    | exc _ => rfl
    | inst c fs =>
      simp only [putC_fld, h]
      try dsimp only
      generalize fs[j]? = g0
      rcases g0 with _ | _ | u
      · rfl
      · rfl
      · cases u with
        | v x => rfl
        | own C => cases C with
          | lst xs => cases k <;> rfl
          | dict kvs => rfl
          | lock kvs => rfl
@[simp] theorem setA_loc : setIxA (.loc i) (.v k) x s = match s.env[i]? with
    | some (some (.own (.dict kvs))) => (match keyOf k with
      | some _ => if kvs.length < sizeLine then .ok .next { s with env := s.env.set i (some (.own (.dict (setK kvs k x)))) } else .bad
      | none => .bad)
    | some (some (.own (.lst xs))) => (match k with
      | .int q => match ixN xs.length q with
        | some l => .ok .next { s with env := s.env.set i (some (.own (.lst (xs.set l x)))) }
        | none => .bad
      | _ => .bad)
    | _ => .bad := by
  unfold setIxA; rw [place_loc]
  try dsimp only
  generalize s.env[i]? = g0
  rcases g0 with _ | _ | u
  · rfl
  · rfl
  · cases u with
    | v x => rfl
    | own C => cases C with
      | lst xs => cases k <;> rfl
      | dict kvs => rfl
      | lock kvs => rfl
@[simp] theorem e_LM {p : RV → List MV → MS → Out RV} : mLM p fo fv s = (fo s).bind fun r s1 => match place s1 r with
  | some (.lst _) => (fv s1).bind fun rs s2 => p r rs s2
  | _ => .bad := rfl
@[simp] theorem e_lApp : lAppend r [x] s = match place s r with
  | some (.lst xs) => if xs.length < sizeLine then .ok (.v .non) (putC s r (.lst (xs ++ [x]))) else .bad
  | _ => .bad := by
  unfold lAppend
  try dsimp only
  generalize place s r = g0
  rcases g0 with _ | C
  · rfl
  · cases C <;> rfl
@[simp] theorem e_lPop : lPop r [] s = match place s r with
  | some (.lst xs) => (match xs[xs.length - 1]? with
    | some x => .ok (.v x) (putC s r (.lst xs.dropLast))
    | none => .bad)
  | _ => .bad := by
  unfold lPop
  try dsimp only
  generalize place s r = g0
  rcases g0 with _ | C
  · rfl
  · cases C <;> rfl
@[simp] theorem e_lIns {i : Int} : lInsert r [.int i, x] s = match place s r with
  | some (.lst xs) => if xs.length < sizeLine ∧ 0 ≤ i ∧ i < 2 ^ 63 then .ok (.v .non) (putC s r (.lst (xs.take i.toNat ++ [x] ++ xs.drop i.toNat))) else .bad
  | _ => .bad := by
  unfold lInsert
  try dsimp only
  generalize place s r = g0
  rcases g0 with _ | C
  · rfl
  · cases C <;> rfl
@[simp] theorem e_sliceR {lo hi : Option Int} : opSlice (.v (.ref n)) lo hi s = match lstOf s (.v (.ref n)) with | some xs => .ok (.own (.lst (cutM xs lo hi))) s | none => .bad := rfl
@[simp] theorem e_sliceLo {lo hi : Option Int} : opSlice (.loc i) lo hi s = match lstOf s (.loc i) with | some xs => .ok (.own (.lst (cutM xs lo hi))) s | none => .bad := rfl
@[simp] theorem e_sliceT {lo hi : Option Int} : opSlice (.v (.tup xs)) lo hi s = .ok (.v (.tup (cutM xs lo hi))) s := rfl
@[simp] theorem e_addRO {b : List MV} : opAdd (.v (.ref n)) (.own (.lst b)) s = match s.hp[n]? with
  | some (.box (.lst a)) => if a.length + b.length ≤ sizeLine then .ok (.own (.lst (a ++ b))) s else .bad
  | _ => .bad := by
  show (match contW s (.v (.ref n)), contW s (.own (.lst b)) with
    | some (.lst a), some (.lst b) => if a.length + b.length ≤ sizeLine then Out.ok (RV.own (.lst (a ++ b))) s else .bad
    | _, _ => .bad) = _
  show (match (match s.hp[n]? with | some (.box c) => some c | _ => none), some (C.lst b) with
    | some (.lst a), some (.lst b) => if a.length + b.length ≤ sizeLine then Out.ok (RV.own (.lst (a ++ b))) s else .bad
    | _, _ => .bad) = _
  generalize s.hp[n]? = g0
  cases g0 with
  | none => rfl
  | some o => cases o with
    | inst _ _ => rfl
    | exc _ => rfl
    | box C => cases C <;> rfl
@[simp] theorem e_DM {p : RV → List MV → MS → Out RV} : mDM p fo fv s = (fo s).bind fun r s1 => match place s1 r with
  | some (.dict _) => (fv s1).bind fun rs s2 => p r rs s2
  | _ => .bad := rfl
@[simp] theorem e_dUpd : dUpdate r [.dct (kvs.map (·.1)) (kvs.map (·.2))] s = match place s r with
  | some (.dict kv0) => if kv0.length + kvs.length ≤ sizeLine then .ok (.v .non) (putC s r (.dict (mergeM kv0 kvs))) else .bad
  | _ => .bad := by
  have e : (kvs.map (·.1)).zip (kvs.map (·.2)) = kvs := by
    induction kvs with
    | nil => rfl
    | cons p r ih => simp [ih]
  unfold dUpdate
  try dsimp only
  generalize place s r = g0
  rcases g0 with _ | C
  · rfl
  · cases C with
    | dict kv0 => simp [e]
    | lst _ => rfl
    | lock _ => rfl
@[simp] theorem e_DPop : mDPop fo fe s = (fo s).bind fun r s1 => match place s1 r with
  | some (.dict _) => (fe s1).bind fun r0 s0 => (share r0 s0).bind fun q s2 => (match place s2 r with
    | some (.dict kvs) => match keyOf q with
      | some _ => match getK kvs q with
        | some x => .ok (.v x) (putC s2 r (.dict (delK kvs q)))
        | none => .bad
      | none => .bad
    | _ => .bad)
  | _ => .bad := by
  unfold mDPop
  congr 1
  funext r s1
  try dsimp only
  generalize place s1 r = g0
  rcases g0 with _ | C
  · rfl
  · cases C with
    | dict kv =>
      show ((fe s1).bind fun r s1 => share r s1).bind _ = _
      cases fe s1 <;> rfl
    | lst _ => rfl
    | lock _ => rfl
@[simp] theorem e_Lk {pk : ME} : mLk pk fe s = match pk s with
  | .ok r _ => (match place s r with
    | some (.dict kvs) => match fe (putC s r (.lock kvs)) with
      | .ok v s2 => match place s2 r with
        | some (.lock _) => .ok v (putC s2 r (.dict kvs))
        | _ => .bad
      | _ => .bad
    | _ => .bad)
  | _ => .bad := rfl
@[simp] theorem e_Keys : mKeys fo s = (fo s).bind fun r s1 => match cont s1 r with
  | some (.lock kvs) => .ok ⟨kvs.map (·.1), fun _ => True⟩ s1
  | _ => .bad := rfl
@[simp] theorem e_Items : mItems fo s = (fo s).bind fun r s1 => match cont s1 r with
  | some (.lock kvs) => .ok ⟨kvs.map fun q => .tup [q.1, q.2], fun _ => True⟩ s1
  | _ => .bad := rfl
@[simp] theorem e_lenA : pLenA [r] s = match dictOf s r with
    | some kvs => .ok (.v (.int kvs.length)) s
    | none => pLen [r] s := rfl
@[simp] theorem e_lenRf : pLen [.v (.ref n)] s = match seqOf s (.v (.ref n)) with
    | some xs => .ok (.v (.int xs.length)) s
    | none => .bad := rfl
@[simp] theorem e_lenFl : pLen [.fld n j] s = match seqOf s (.fld n j) with
    | some xs => .ok (.v (.int xs.length)) s
    | none => .bad := rfl
@[simp] theorem e_lenLo : pLen [.loc i] s = match seqOf s (.loc i) with
    | some xs => .ok (.v (.int xs.length)) s
    | none => .bad := rfl
@[simp] theorem e_AugFld {p : RV → RV → MS → Out RV} : mAugFld c j p fo fe s = (fo s).bind fun ro s0 => match ro with
  | .v (.ref n) => match s0.hp[n]? with
    | some (.inst c' fs) => if c' = c then (match fs[j]? with
      | some (some (.v x)) => (fe s0).bind fun r s2 => if isScal (.v x) = true ∧ isScal r = true then (p (.v x) r s2).bind fun z s3 => putFldS c j n z s3 else .bad
      | _ => .bad) else .bad
    | _ => .bad
  | _ => .bad := rfl
@[simp] theorem e_putF : putFldS c j n (.v x) s = match s.hp[n]? with
  | some (.inst c' fs) => if c' = c ∧ (noOwn fs[j]? = true ∨ s.base ≤ n) then .ok .next { s with hp := s.hp.set n (.inst c (fs.set j (some (.v x)))) } else .bad
  | _ => .bad := rfl
@[simp] theorem e_putFO {C : C} : putFldS c j n (.own C) s = match s.hp[n]? with
  | some (.inst c' fs) => if c' = c ∧ (noOwn fs[j]? = true ∨ s.base ≤ n) then .ok .next { s with hp := s.hp.set n (.inst c (fs.set j (some (.own C)))) } else .bad
  | _ => .bad := rfl
@[simp] theorem noOwn_v : noOwn (some (some (.v x))) = true := rfl
@[simp] theorem noOwn_n : noOwn (some none) = true := rfl
@[simp] theorem is_non {neg : Bool} : opIs neg r (.v .non) s = match nonR s r with | some b => .ok (.v (.bl (neg ^^ b))) s | none => .bad := rfl
@[simp] theorem nonR_non : nonR s (.v .non) = some true := rfl
@[simp] theorem nonR_int {v : Int} : nonR s (.v (.int v)) = some false := rfl
@[simp] theorem nonR_str : nonR s (.v (.str z)) = some false := rfl
@[simp] theorem nonR_own {C : C} : nonR s (.own C) = some false := rfl
@[simp] theorem nonR_ref : nonR s (.v (.ref n)) = some false := rfl
@[simp] theorem nonR_tup : nonR s (.v (.tup xs)) = some false := rfl
theorem e_Dc {vs : List Nat} {it : MS → Out MI} {tg : MG} {tt : MS → Out Bool} {tk te : ME} : mDc vs it tg tt tk te s = (it s).bind fun I s1 =>
  (noExc (dcGo vs I.chk tg tt tk te I.items [] { s1 with env := wipeM s1.env vs })).bind fun acc s2 => .ok (.own (.dict acc)) { s2 with env := backEnv s1.env s2.env vs } := rfl
@[simp] theorem itOf_ref : itOf (.v (.ref n)) s = match s.hp[n]? with | some (.box (.lst xs)) => .ok ⟨xs, fun s' => s'.base = s.base ∧ seqOf s' (.v (.ref n)) = some xs⟩ s | _ => .bad := by
  show (match seqOf s (.v (.ref n)) with | some xs => Out.ok (⟨xs, fun s' => s'.base = s.base ∧ seqOf s' (.v (.ref n)) = some xs⟩ : MI) s | none => .bad) = _
  rw [seqOf_ref]
  generalize s.hp[n]? = g0
  cases g0 with
  | none => rfl
  | some o => cases o with
    | inst _ _ => rfl
    | exc _ => rfl
    | box C => cases C <;> rfl
@[simp] theorem itOf_loc : itOf (.loc i) s = (share (.loc i) s).bind fun x s2 => itV x s2 := rfl
@[simp] theorem itV_lst : itV (.lst xs) s = .ok ⟨xs, fun _ => True⟩ s := rfl
@[simp] theorem sorted_d : pSorted [r] s = match dictOf s r with
    | some kvs => (match intsOf (kvs.map (·.1)) with
      | some ks => .ok (.own (.lst ((srtI ks).map .int))) s
      | none => .bad)
    | none => match (lstOf s r).bind intsOf with
      | some ns => .ok (.own (.lst ((srtI ns).map .int))) s
      | none => .bad := rfl
@[simp] theorem dictof_d : pDictOf [r] s = match dictOf s r with
    | some kvs => .ok (.own (.dict kvs)) s
    | none => match (lstOf s r).bind pairsOf with
      | some ps => if keysOk ps = true then .ok (.own (.dict (mergeM [] ps))) s else .bad
      | none => .bad := rfl
@[simp] theorem frz_d : frzC (.dict kvs) = .dct (kvs.map (·.1)) (kvs.map (·.2)) := rfl
@[simp] theorem e_makeIn {m n : Nat} {run : Fn} : mMakeIn c m run n xs s = if xs.length + 1 = n then
    (mRun run (.ref s.hp.length :: xs) { s with hp := s.hp ++ [.inst c (List.replicate m none)] }).bind fun r s2 => (match r with
      | .v .non => .ok (.v (.ref s.hp.length)) s2
      | _ => .bad)
  else .bad := rfl
@[simp] theorem e_MakeK {m n nk : Nat} {idx : List Nat} {run : Fn} {fk : MS → Out (List MV)} : mMakeK c m run n nk idx fk s = (fk s).bind fun ys s1 => if ys.length = nk ∧ (permL idx (MV.ref s1.hp.length :: ys)).length = n then
    (mRun run (permL idx (.ref s1.hp.length :: ys)) { s1 with hp := s1.hp ++ [.inst c (List.replicate m none)] }).bind fun r s2 => (match r with
      | .v .non => .ok (.v (.ref s1.hp.length)) s2
      | _ => .bad)
  else .bad := rfl
@[simp] theorem e_Pairs {fp : MS → Out (List (MV × MV))} {fk fv : ME} : mPairs fk fv fp s = (fk s).bind fun r0 s0 => (share r0 s0).bind fun x s1 => (fv s1).bind fun r1 t1 => (share r1 t1).bind fun y s2 => (fp s2).bind fun ps s3 => .ok ((x, y) :: ps) s3 := by
  show ((fk s).bind fun r s1 => share r s1).bind _ = _
  cases fk s with
  | ok a t =>
    show (share a t).bind _ = (share a t).bind _
    congr 1
    funext x s1
    show ((fv s1).bind fun r s1 => share r s1).bind _ = _
    cases fv s1 <;> rfl
  | exc c xs t1 => rfl
  | bad => rfl
/-- one step -/
@[simp] theorem ok_ok {α : Type} {a : α} {Q : α → MS → Prop} : Ok (.ok a s) Q = Q a s := rfl
theorem ok_seq {sa sb : MSt} {Q : Fl → MS → Prop} (h : Ok (sa s) fun fl s1 => fl = .next ∧ Ok (sb s1) Q) : Ok (mSeq sa sb s) Q := by
  obtain ⟨fl, s1, e, rfl, h2⟩ := h.get
  show Ok ((sa s).bind _) Q
  rw [e]; exact h2
end
/-! pools with their numbers told -/
abbrev PB (p : Int × Int) : MO := .box (.lst [.int p.1, .int p.2])
structure OkP (p : Int × Int) : Prop where
  a0 : 0 ≤ p.1
  b0 : 0 ≤ p.2
  b1 : p.2 < 2147483647
theorem take_all (a c d : Int) (ha : 0 ≤ a) (ha2 : a < 2 ^ 60) (hc : 0 ≤ c) (hd0 : 0 < d) (hd : d < 1073741824) (p : Int × Int) (P : OkP p) (m : Int) (h1 : 1 ≤ m) (h2 : m < 1073741824) :
    ∃ (v : Int) (p' : Int × Int), 0 ≤ v ∧ v < m ∧ OkP p' ∧ ∀ (hp : List MO) (n : Nat), hp[n]? = some (PB p) → runOf 3 (takeB a c d) [.ref n, .int m] hp = .ok (.v (.int v)) (hp.set n (PB p')) := by
  obtain ⟨A, B⟩ := p
  obtain ⟨hA, hB, hB2⟩ := P
  simp only at hA hB hB2
  have hm : 0 < m := by omega
  have hcd : ∀ i, CDiv i m := fun i => ⟨hm, h2⟩
  have i0 : ∀ a b : MV, atI [a, b] 0 = some a := fun _ _ => rfl
  have i1 : ∀ a b : MV, atI [a, b] 1 = some b := fun _ _ => rfl
  have j0 : ∀ a b : MV, ixN [a, b].length 0 = some 0 := fun _ _ => rfl
  have j1 : ∀ a b : MV, ixN [a, b].length 1 = some 1 := fun _ _ => rfl
  by_cases hg : 0 < A
  · refine ⟨A % m, (A / m, B), Int.emod_nonneg _ (by omega), Int.emod_lt_of_pos _ hm, ⟨Int.ediv_nonneg hA (by omega), hB, hB2⟩, fun hp n e => by unfold takeB runOf env0; simp [e_ixAR (s := ⟨_, hp, _⟩) e, e_setAR (s := ⟨_, hp, _⟩) e (j0 _ _), i0, i1, hm, hcd, hg, e]⟩
  · obtain ⟨B', hB'⟩ : ∃ x, x = (B * a + c) % 2147483647 := ⟨_, rfl⟩
    have b0' : 0 ≤ B' := by omega
    have b1' : B' < 2147483647 := by omega
    have hdd : ∀ i, CDiv i d := fun i => ⟨hd0, hd⟩
    have hmm : CMul B' B' := .inl ⟨by omega, by omega⟩
    have hma : CMul B a := .inl ⟨by omega, by omega⟩
    refine ⟨B' * B' % 2147483629 / d % m, (A, B'), Int.emod_nonneg _ (by omega), Int.emod_lt_of_pos _ hm, ⟨hA, b0', b1'⟩, fun hp n e => ?_⟩
    have hn : n < hp.length := (List.getElem?_eq_some_iff.mp e).1
    have e2 : (hp.set n (.box (.lst [.int A, .int B'])))[n]? = some (.box (.lst [.int A, .int B'])) := by simp [hn]
    unfold takeB runOf env0
    simp [e_ixAR (s := ⟨_, hp, _⟩) e, e_setAR (s := ⟨_, hp, _⟩) e (j1 _ _), e_ixAR (s := ⟨_, hp.set n _, _⟩) e2, i0, i1, hm, hcd, hg, hma, ← hB', hdd, hmm, e, hn]
/-! a dict comprehension with a test -/
theorem dcGo_filt {α : Type} {vs : List Nat} {chk : MS → Prop} {tg : MG} {tt : MS → Out Bool} {tk te : ME} (F gk gv : α → MV) (p : α → Bool) (s0 : MS) (hc : chk s0) : ∀ (L : List α) (acc : List (MV × MV)), acc.length + L.length ≤ sizeLine →
    (∀ a ∈ L, (keyOf (gk a)).isSome = true) →
    (∀ a ∈ L, ∃ s1 s2, tg (F a) s0 = some s1 ∧ tt s1 = .ok (p a) s2 ∧ (p a = false → { s2 with env := wipeM s2.env vs } = s0) ∧ (p a = true → ∃ s3 s4, mSh tk s2 = .ok (gk a) s3 ∧ mSh te s3 = .ok (gv a) s4 ∧ { s4 with env := wipeM s4.env vs } = s0)) →
    dcGo vs chk tg tt tk te (L.map F) acc s0 = .ok ((L.filter p).foldl (fun acc a => setK acc (gk a) (gv a)) acc) s0
  | [], acc, _, _, _ => by unfold dcGo; simp [hc]
  | a :: L, acc, hz, hk, h => by
    obtain ⟨s1, s2, e1, e2, e3, e4⟩ := h a (List.mem_cons_self ..)
    obtain ⟨q, eq⟩ := Option.isSome_iff_exists.mp (hk a (List.mem_cons_self ..))
    simp only [List.length_cons] at hz
    rw [List.map_cons]
    unfold dcGo
    rw [if_pos hc, e1]
    simp only [e2, Out.bind_ok]
    cases hp : p a with
    | false =>
      simp only [Bool.false_eq_true, if_false]
      rw [e3 hp, dcGo_filt F gk gv p s0 hc L acc (by omega) (fun b hb => hk b (List.mem_cons_of_mem _ hb)) fun b hb => h b (List.mem_cons_of_mem _ hb)]
      simp [List.filter_cons, hp]
    | true =>
      obtain ⟨s3, s4, e5, e6, e7⟩ := e4 hp
      have : (setK acc (gk a) (gv a)).length ≤ acc.length + 1 := setK_len
      simp only [if_true, e5, e6, Out.bind_ok, eq]
      rw [if_pos (by omega), e7, dcGo_filt F gk gv p s0 hc L _ (by omega) (fun b hb => hk b (List.mem_cons_of_mem _ hb)) fun b hb => h b (List.mem_cons_of_mem _ hb)]
      simp [List.filter_cons, hp]
theorem lcGo_mapO {α : Type} {vs : List Nat} {chk : MS → Prop} {tg : MG} {te : ME} (F g : α → MV) (s0 : MS) (hc : chk s0) (L : List α) (acc : List MV) (hz : acc.length + L.length ≤ sizeLine)
    (h : ∀ a ∈ L, ∃ s1, tg (F a) s0 = some s1 ∧ Ok (mSh te s1) fun y s2 => y = g a ∧ ({ s2 with env := wipeM s2.env vs } : MS) = s0) : lcGo vs chk tg mYes te (L.map F) acc s0 = .ok (acc ++ L.map g) s0 :=
  lcGo_map F g s0 hc L acc hz fun a ha => by
    obtain ⟨s1, e, k⟩ := h a ha
    obtain ⟨y, s2, e2, rfl, e3⟩ := k.get
    exact ⟨s1, s2, e, e2, e3⟩
theorem lcGo_filtO {α : Type} {vs : List Nat} {chk : MS → Prop} {tg : MG} {tt : MS → Out Bool} {te : ME} (F g : α → MV) (p : α → Bool) (s0 : MS) (hc : chk s0) (L : List α) (acc : List MV) (hz : acc.length + L.length ≤ sizeLine)
    (h : ∀ a ∈ L, ∃ s1, tg (F a) s0 = some s1 ∧ Ok (tt s1) fun b s2 => b = p a ∧ (p a = false → ({ s2 with env := wipeM s2.env vs } : MS) = s0) ∧ (p a = true → Ok (mSh te s2) fun y s3 => y = g a ∧ ({ s3 with env := wipeM s3.env vs } : MS) = s0)) :
    lcGo vs chk tg tt te (L.map F) acc s0 = .ok (acc ++ (L.filter p).map g) s0 :=
  lcGo_filt F g p s0 hc L acc hz fun a ha => by
    obtain ⟨s1, e, k⟩ := h a ha
    obtain ⟨b, s2, e2, rfl, e3, e4⟩ := k.get
    refine ⟨s1, s2, e, e2, e3, fun q => ?_⟩
    obtain ⟨y, s3, e5, rfl, e6⟩ := (e4 q).get
    exact ⟨s3, e5, e6⟩
theorem dcGo_filtO {α : Type} {vs : List Nat} {chk : MS → Prop} {tg : MG} {tt : MS → Out Bool} {tk te : ME} (F gk gv : α → MV) (p : α → Bool) (s0 : MS) (hc : chk s0) (L : List α) (acc : List (MV × MV)) (hz : acc.length + L.length ≤ sizeLine)
    (hk : ∀ a ∈ L, (keyOf (gk a)).isSome = true)
    (h : ∀ a ∈ L, ∃ s1, tg (F a) s0 = some s1 ∧ Ok (tt s1) fun b s2 => b = p a ∧ (p a = false → ({ s2 with env := wipeM s2.env vs } : MS) = s0) ∧ (p a = true → Ok (mSh tk s2) fun x s3 => x = gk a ∧ Ok (mSh te s3) fun y s4 => y = gv a ∧ ({ s4 with env := wipeM s4.env vs } : MS) = s0)) :
    dcGo vs chk tg tt tk te (L.map F) acc s0 = .ok ((L.filter p).foldl (fun acc a => setK acc (gk a) (gv a)) acc) s0 :=
  dcGo_filt F gk gv p s0 hc L acc hz hk fun a ha => by
    obtain ⟨s1, e, k⟩ := h a ha
    obtain ⟨b, s2, e2, rfl, e3, e4⟩ := k.get
    refine ⟨s1, s2, e, e2, e3, fun q => ?_⟩
    obtain ⟨y, s3, e5, rfl, e6⟩ := (e4 q).get
    obtain ⟨y, s4, e7, rfl, e8⟩ := e6.get
    exact ⟨s3, s4, e5, e7, e8⟩
@[simp] theorem e_mSh {f : ME} {s : MS} : mSh f s = (f s).bind fun r s1 => share r s1 := rfl
@[simp] theorem set_get {hp : List MO} {J : Nat} {o : MO} : (hp.set J o)[J]? = (hp[J]?).map fun _ => o := by
  rw [List.getElem?_set_self']; rfl
end Mi
set_option Elab.async false
set_option linter.all false
set_option maxRecDepth 100000
set_option maxHeartbeats 4000000
namespace Mi
open PySem PySem.Spec PyProof.Rows L2
/-! pieces, what is known, runs -/
abbrev Pc := Int × List Nat
def mvP (p : Pc) : MV := .tup [.int p.1, .str p.2]
abbrev KF := Int → Option Nat
def put1 (f : KF) (k : Int) (c : Nat) : KF := fun j => if k = j then some ((f k).getD c) else f j
def ovr1 (f : KF) (k : Int) (c : Nat) : KF := fun j => if k = j then some c else f j
def putZ (f : KF) (a : Int) : List Nat → KF
  | [] => f
  | c :: z => putZ (put1 f a c) (a + 1) z
def ovrZ (f : KF) (a : Int) : List Nat → KF
  | [] => f
  | c :: z => ovrZ (ovr1 f a c) (a + 1) z
def addK (ks : List Int) (k : Int) : List Int := if k ∈ ks then ks else ks ++ [k]
def keysZ (ks : List Int) (a : Int) : List Nat → List Int
  | [] => ks
  | _ :: z => keysZ (addK ks a) (a + 1) z
def putP (f : KF) : List Pc → KF
  | [] => f
  | p :: r => putP (putZ f p.1 p.2) r
def ovrP (f : KF) : List Pc → KF
  | [] => f
  | p :: r => ovrP (ovrZ f p.1 p.2) r
def keysP (ks : List Int) : List Pc → List Int
  | [] => ks
  | p :: r => keysP (keysZ ks p.1 p.2) r
structure Dk (kvs : List (MV × MV)) (f : KF) (ks : List Int) : Prop where
  keys : kvs.map (·.1) = ks.map MV.int
  nd : ks.Nodup
  get : ∀ k : Int, getK kvs (.int k) = (f k).map fun c => .str [c]
  mem : ∀ k, k ∈ ks ↔ (f k).isSome = true
theorem Dk.len {kvs : List (MV × MV)} {f : KF} {ks : List Int} (h : Dk kvs f ks) : kvs.length = ks.length := by
  have := congrArg List.length h.keys
  simpa using this
theorem addK_mem {ks : List Int} {k j : Int} : j ∈ addK ks k ↔ j ∈ ks ∨ j = k := by
  unfold addK
  split
  · rename_i h
    exact ⟨.inl, fun z => z.elim id fun e => e ▸ h⟩
  · simp
theorem addK_nd {ks : List Int} {k : Int} (h : ks.Nodup) : (addK ks k).Nodup := by
  unfold addK
  split
  · exact h
  · rename_i hk
    rw [List.nodup_append]
    exact ⟨h, by simp, fun a ha b hb e => by simp at hb; subst hb; subst e; exact hk ha⟩
theorem setK_keys {kvs : List (MV × MV)} {ks : List Int} {k : Int} {x : MV} (h : kvs.map (·.1) = ks.map MV.int) : (setK kvs (.int k) x).map (·.1) = (addK ks k).map MV.int := by
  have ha : (kvs.any fun p => eqK p.1 (.int k)) = decide (k ∈ ks) := by
    have e1 : (kvs.any fun p => eqK p.1 (.int k)) = (kvs.map (·.1)).any fun y => eqK y (.int k) := by rw [List.any_map]; rfl
    rw [e1, h, List.any_map]
    by_cases hk : k ∈ ks
    · rw [decide_eq_true hk]
      simp only [List.any_eq_true, Function.comp, eqK_int, decide_eq_true_eq]
      exact ⟨k, hk, rfl⟩
    · rw [decide_eq_false hk]
      simp only [List.any_eq_false, Function.comp, eqK_int, decide_eq_true_eq]
      exact fun j hj e => hk (e ▸ hj)
  unfold setK addK
  rw [ha]
  by_cases hk : k ∈ ks
  · simp only [hk, decide_true, if_true]
    rw [← h, List.map_map]
    apply List.map_congr_left
    intro p _
    simp only [Function.comp]
    split <;> rfl
  · simp [hk, h]
theorem Dk.ovr {kvs : List (MV × MV)} {f : KF} {ks : List Int} (h : Dk kvs f ks) (k : Int) (c : Nat) : Dk (setK kvs (.int k) (.str [c])) (ovr1 f k c) (addK ks k) where
  keys := setK_keys h.keys
  nd := addK_nd h.nd
  get := fun j => by rw [getK_setI, h.get]; unfold ovr1; split <;> rfl
  mem := fun j => by
    rw [addK_mem, h.mem]
    unfold ovr1
    by_cases e : k = j
    · simp [e]
    · rw [if_neg e]
      exact ⟨fun z => z.elim id fun q => absurd q.symm e, .inl⟩
def dput (kvs : List (MV × MV)) (k : Int) (c : Nat) : List (MV × MV) := match getK kvs (.int k) with | some _ => kvs | none => setK kvs (.int k) (.str [c])
theorem Dk.put {kvs : List (MV × MV)} {f : KF} {ks : List Int} (h : Dk kvs f ks) (k : Int) (c : Nat) : Dk (dput kvs k c) (put1 f k c) (addK ks k) := by
  unfold dput
  rw [h.get]
  cases q : f k with
  | none =>
    have e : put1 f k c = ovr1 f k c := by unfold put1 ovr1; rw [q]; rfl
    rw [e]
    exact h.ovr k c
  | some d =>
    have e : put1 f k c = f := by
      funext j
      unfold put1
      split
      · rename_i z; rw [← z, q]; rfl
      · rfl
    have e2 : addK ks k = ks := if_pos ((h.mem k).mpr (by rw [q]; rfl))
    rw [e, e2]
    exact h
theorem Dk.nil : Dk [] (fun _ => none) [] := ⟨rfl, List.nodup_nil, fun _ => rfl, fun k => by simp⟩
theorem keysZ_len (z : List Nat) : ∀ (ks : List Int) (a : Int), (keysZ ks a z).length ≤ ks.length + z.length := by
  induction z with
  | nil => exact fun ks a => Nat.le_refl _
  | cons c z ih =>
    intro ks a
    have h1 := ih (addK ks a) (a + 1)
    have h2 : (addK ks a).length ≤ ks.length + 1 := by unfold addK; split <;> simp
    unfold keysZ
    simp only [List.length_cons]
    omega
/-! runs -/
def sg (f : KF) (k : Int) : List Nat := match f k with | some c => [c] | none => []
def stepR (f : KF) (acc : List Pc) (k : Int) : List Pc := if (f (k - 1)).isSome = true then (match acc.getLast? with | some q => acc.dropLast ++ [(q.1, q.2 ++ sg f k)] | none => acc) else acc ++ [(k, sg f k)]
structure RI (acc : List Pc) (dn : List Int) : Prop where
  ne : acc = [] → dn = []
  len : acc.length ≤ dn.length
  txt : ∀ p ∈ acc, p.2.length ≤ dn.length
theorem last_cases {α : Type} (l : List α) : l = [] ∨ ∃ A q, l = A ++ [q] := by
  rcases List.eq_nil_or_concat l with h | ⟨A, q, h⟩
  · exact .inl h
  · exact .inr ⟨A, q, by rw [h]; simp⟩
theorem ixN_last {n : Nat} : ixN (n + 1) (-1) = some n := by
  unfold ixN
  rw [if_neg (by decide)]
  have : (-1 : Int) + ((n + 1 : Nat) : Int) = n := by omega
  simp only [this]
  rw [if_pos (by omega)]
  simp
theorem atI_last {α : Type} {A : List α} {q : α} : atI (A ++ [q]) (-1) = some q := by
  unfold atI
  rw [show (A ++ [q]).length = A.length + 1 by simp, ixN_last]
  simp
/-- one key of the sorted ones -/
theorem before {ks dn rest : List Int} {k : Int} (e : dn ++ k :: rest = srtI ks) (hk : k - 1 ∈ ks) : dn ≠ [] := by
  rintro rfl
  have hs := srtI_sorted ks
  have hm := (srtI_perm ks).mem_iff.mpr hk
  rw [← e] at hs hm
  simp only [List.nil_append] at hs hm
  have := List.pairwise_cons.mp hs
  rcases List.mem_cons.mp hm with z | z
  · omega
  · have := this.1 _ z; omega
theorem RI.step {f : KF} {acc : List Pc} {dn : List Int} {k : Int} (h : RI acc dn) (hc : (f (k - 1)).isSome = true → acc ≠ []) : RI (stepR f acc k) (dn ++ [k]) := by
  have hg : (sg f k).length ≤ 1 := by unfold sg; split <;> simp
  unfold stepR
  split
  · rename_i q
    rcases last_cases acc with e | ⟨A, p, e⟩
    · exact absurd e (hc q)
    · subst e
      simp only [List.getLast?_append, List.getLast?_singleton, Option.some_or, List.dropLast_concat]
      refine ⟨fun z => by simp at z, ?_, fun x hx => ?_⟩
      · have := h.len; simp at *; omega
      · rcases List.mem_append.mp hx with z | z
        · have := h.txt x (List.mem_append_left _ z); simp; omega
        · simp at z
          have := h.txt p (List.mem_append_right _ (by simp))
          rw [z]; simp; omega
  · refine ⟨fun z => by simp at z, ?_, fun x hx => ?_⟩
    · have := h.len; simp at *; omega
    · rcases List.mem_append.mp hx with z | z
      · have := h.txt x z; simp; omega
      · simp at z
        rw [z]; simp; omega
def runsP (f : KF) (ks : List Int) : List Pc := (srtI ks).foldl (stepR f) []
/-! what is known, as a function -/
def pc (p : Pc) (k : Int) : Option Nat := if p.1 ≤ k then p.2[(k - p.1).toNat]? else none
theorem pc_here (a : Int) (c : Nat) (z : List Nat) : pc (a, c :: z) a = some c := by
  unfold pc; simp
theorem pc_next {a k : Int} {c : Nat} {z : List Nat} (h : k ≠ a) : pc (a, c :: z) k = pc (a + 1, z) k := by
  unfold pc
  by_cases h1 : a + 1 ≤ k
  · rw [if_pos h1, if_pos (by show a ≤ k; omega)]
    show (c :: z)[(k - a).toNat]? = z[(k - (a + 1)).toNat]?
    rw [show (k - a).toNat = (k - (a + 1)).toNat + 1 by omega]
    rfl
  · rw [if_neg h1, if_neg (by show ¬ a ≤ k; omega)]
theorem putZ_eq (z : List Nat) : ∀ (f : KF) (a k : Int), putZ f a z k = (f k).or (pc (a, z) k) := by
  induction z with
  | nil => intro f a k; unfold putZ pc; simp
  | cons c z ih =>
    intro f a k
    unfold putZ
    rw [ih]
    by_cases h : k = a
    · subst h
      rw [pc_here]
      unfold put1
      cases f k <;> simp
    · rw [pc_next h]
      unfold put1
      rw [if_neg (Ne.symm h)]
theorem ovrZ_eq (z : List Nat) : ∀ (f : KF) (a k : Int), ovrZ f a z k = (pc (a, z) k).or (f k) := by
  induction z with
  | nil => intro f a k; unfold ovrZ pc; simp
  | cons c z ih =>
    intro f a k
    unfold ovrZ
    rw [ih]
    by_cases h : k = a
    · subst h
      rw [pc_here]
      have : pc (k + 1, z) k = none := by unfold pc; rw [if_neg (by show ¬ k + 1 ≤ k; omega)]
      rw [this]
      unfold ovr1
      simp
    · rw [pc_next h]
      unfold ovr1
      rw [if_neg (Ne.symm h)]
theorem putP_eq : ∀ (P : List Pc) (f : KF) (k : Int), putP f P k = (f k).or (P.findSome? fun p => pc p k)
  | [], f, k => by simp [putP]
  | p :: P, f, k => by
    unfold putP
    rw [putP_eq P, putZ_eq, List.findSome?_cons]
    cases f k <;> cases pc (p.1, p.2) k <;> rfl
theorem ovrP_eq : ∀ (P : List Pc) (f : KF) (k : Int), ovrP f P k = (P.reverse.findSome? fun p => pc p k).or (f k)
  | [], f, k => by simp [ovrP]
  | p :: P, f, k => by
    unfold ovrP
    rw [ovrP_eq P, ovrZ_eq, List.reverse_cons, List.findSome?_append]
    cases P.reverse.findSome? fun p => pc p k <;> simp
theorem same_known (P : List Pc) : ovrP (fun _ => none) P.reverse = putP (fun _ => none) P := by
  funext k
  rw [ovrP_eq, putP_eq, List.reverse_reverse]
  simp
theorem perm_of_mem : ∀ {l m : List Int}, l.Nodup → m.Nodup → (∀ k, k ∈ l ↔ k ∈ m) → l.Perm m := fun {l m} h1 h2 h => by
  exact (List.perm_ext_iff_of_nodup h1 h2).mpr h
theorem same_keys {kvs kvs' : List (MV × MV)} {f : KF} {ks ks' : List Int} (h : Dk kvs f ks) (h' : Dk kvs' f ks') : srtI ks = srtI ks' ∧ ks.length = ks'.length := by
  have p := perm_of_mem h.nd h'.nd fun k => (h.mem k).trans (h'.mem k).symm
  exact ⟨srt_eq ((srtI_perm ks).trans p) (srtI_sorted ks), p.length_eq⟩

/-! cuts -/
def pdP (p : Pc) : PyData := .tuple [.int p.1, .str ⟨p.2.toArray⟩]
theorem pds_P : ∀ P : List Pc, pds (P.map mvP) = some (P.map pdP)
  | [] => rfl
  | p :: P => by
    show (match pd (mvP p), pds (P.map mvP) with | some d, some ds => some (d :: ds) | _, _ => none) = _
    rw [pds_P P]
    rfl
theorem canLay_P : ∀ P : List Pc, (∀ p ∈ P, Low p.2) → PyData.canLayAll0 (P.map pdP) = true
  | [], _ => rfl
  | p :: P, h => by
    have h1 := strOk_low (h p (List.mem_cons_self ..))
    have h2 := canLay_P P fun q hq => h q (List.mem_cons_of_mem _ hq)
    simp [pdP, PyData.canLayAll0, PyData.canLay0, h1] at h2 ⊢
    exact h2
theorem depth_P : ∀ P : List Pc, PyData.depthAll (P.map pdP) ≤ 5
  | [] => by simp [PyData.depthAll]
  | p :: P => by
    have h2 := depth_P P
    simp [pdP, PyData.depthAll, PyData.depth] at h2 ⊢
    exact Nat.max_le.mpr ⟨by decide, h2⟩
theorem show_P (M : Nat) (hM : M ≤ 100000) : ∀ P : List Pc, (∀ p ∈ P, 0 ≤ p.1 ∧ p.1 < M) → PyData.showableAll (P.map pdP) = true
  | [], _ => rfl
  | p :: P, h => by
    have h1 := h p (List.mem_cons_self ..)
    have h2 := show_P M hM P fun q hq => h q (List.mem_cons_of_mem _ hq)
    have h3 : p.1.natAbs.log2 < 1920 := by
      have a : p.1.natAbs < 2 ^ 1920 := Nat.lt_of_lt_of_le (by omega : p.1.natAbs < 100000) (by decide)
      by_cases z : p.1.natAbs = 0
      · rw [z]; decide
      · exact (Nat.log2_lt z).mpr a
    simp [pdP, PyData.showableAll, PyData.showable, h3] at h2 ⊢
    exact h2
theorem cost_P (M : Nat) : ∀ P : List Pc, (∀ p ∈ P, p.2.length ≤ M) → shCostAll (P.map pdP) ≤ (2100 + 10 * M) * P.length
  | [], _ => Nat.le_refl _
  | p :: P, h => by
    have h1 := h p (List.mem_cons_self ..)
    have h2 := cost_P M P fun q hq => h q (List.mem_cons_of_mem _ hq)
    have e : (⟨p.2.toArray⟩ : Str).length = p.2.length := by simp [Str.length]
    simp only [List.map_cons, shCostAll, pdP, shCost, e, List.length_cons, Nat.mul_add]
    omega
theorem shaped_P (P : List Pc) (h : ∀ p ∈ P, Low p.2) : SeqAt.shaped (.list (P.map pdP)) = true := by
  have h1 := canLay_P P h
  have h2 := depth_P P
  unfold SeqAt.shaped
  rw [Bool.and_eq_true]
  refine ⟨by simpa [PyData.canLay0] using h1, ?_⟩
  rw [decide_eq_true_eq]
  show PyData.depthAll (P.map pdP) + 1 ≤ 64
  omega
theorem runs_low (f : KF) (hf : ∀ k c, f k = some c → 97 ≤ c ∧ c ≤ 122) : ∀ (ks : List Int) (acc : List Pc), (∀ p ∈ acc, Low p.2) → ∀ p ∈ ks.foldl (stepR f) acc, Low p.2
  | [], acc, h => h
  | k :: ks, acc, h => by
    refine runs_low f hf ks _ fun p hp => ?_
    have hs : Low (sg f k) := fun c hc => by
      unfold sg at hc
      cases q : f k with
      | none => rw [q] at hc; cases hc
      | some d => rw [q] at hc; simp at hc; subst hc; exact hf k c q
    unfold stepR at hp
    split at hp
    · rcases last_cases acc with e | ⟨A, q, e⟩
      · subst e; simp at hp
      · subst e
        simp only [List.getLast?_append, List.getLast?_singleton, Option.some_or, List.dropLast_concat] at hp
        rcases List.mem_append.mp hp with z | z
        · exact h p (List.mem_append_left _ z)
        · simp at z
          subst z
          intro c hc
          rcases List.mem_append.mp hc with y | y
          · exact h q (by simp) c y
          · exact hs c y
    · rcases List.mem_append.mp hp with z | z
      · exact h p z
      · simp at z; subst z; exact hs
/-! dicts of numbers and signs, as lists -/
abbrev KL := List (Int × Nat)
def KD (L : KL) : List (MV × MV) := L.map fun p => (.int p.1, .str [p.2])
def lk : KL → Int → Option Nat
  | [], _ => none
  | (a, c) :: r, k => if a = k then some c else lk r k
abbrev ks (L : KL) : List Int := L.map (·.1)
@[simp] theorem KD_nil : KD [] = [] := rfl
@[simp] theorem KD_len {L : KL} : (KD L).length = L.length := by simp [KD]
@[simp] theorem KD_items {L : KL} : (KD L).map (fun q => MV.tup [q.1, q.2]) = L.map fun p => .tup [.int p.1, .str [p.2]] := by simp [KD, Function.comp_def]
theorem KD_keys {L : KL} : (KD L).map (fun q => q.1) = L.map fun p => .int p.1 := by simp [KD, Function.comp_def]
theorem getK_KD (L : KL) (k : Int) : getK (KD L) (.int k) = (lk L k).map fun c => .str [c] := by
  induction L with
  | nil => rfl
  | cons p r ih =>
    obtain ⟨a, c⟩ := p
    simp only [KD, List.map_cons, getK, lk, eqK_int, decide_eq_true_eq]
    split
    · rfl
    · exact ih
theorem lk_mem {L : KL} {k : Int} : (lk L k).isSome = true ↔ k ∈ ks L := by
  induction L with
  | nil => simp [lk]
  | cons p r ih =>
    obtain ⟨a, c⟩ := p
    simp only [lk, List.map_cons, List.mem_cons]
    split
    · rename_i e; simp [e]
    · rename_i e; rw [ih]; exact ⟨.inr, fun z => z.elim (fun q => absurd q.symm e) id⟩
theorem lk_none {L : KL} {k : Int} : lk L k = none ↔ k ∉ ks L := by
  rw [← lk_mem]; cases lk L k <;> simp
theorem lk_in {L : KL} {k : Int} {c : Nat} (h : lk L k = some c) : (k, c) ∈ L := by
  induction L with
  | nil => cases h
  | cons p r ih =>
    obtain ⟨a, d⟩ := p
    simp only [lk] at h
    split at h
    · rename_i e; cases h; subst e; exact List.mem_cons_self ..
    · exact List.mem_cons_of_mem _ (ih h)
theorem lk_uniq {L : KL} {p : Int × Nat} {c : Nat} (h : (ks L).Nodup) (hp : p ∈ L) (e : lk L p.1 = some c) : c = p.2 := by
  induction L with
  | nil => cases hp
  | cons q r ih =>
    obtain ⟨a, d⟩ := q
    simp only [ks, List.map_cons, List.nodup_cons] at h
    rcases List.mem_cons.mp hp with rfl | hp
    · simp [lk] at e; exact e.symm
    · have : a ≠ p.1 := fun z => h.1 (z ▸ List.mem_map_of_mem hp)
      simp only [lk, if_neg this] at e
      exact ih h.2 hp e
theorem lk_app {L M : KL} {k : Int} : lk (L ++ M) k = (lk L k).or (lk M k) := by
  induction L with
  | nil => rfl
  | cons p r ih =>
    obtain ⟨a, c⟩ := p
    simp only [List.cons_append, lk]
    split
    · rfl
    · exact ih
theorem lk_filter {L : KL} {k : Int} (P : Int → Bool) : lk (L.filter fun p => P p.1) k = if P k = true then lk L k else none := by
  induction L with
  | nil => simp [lk]
  | cons p r ih =>
    obtain ⟨a, c⟩ := p
    simp only [List.filter_cons]
    by_cases h : a = k
    · subst h
      cases q : P a with
      | true => simp [lk]
      | false => simp [q] at ih ⊢; exact ih
    · cases q : P a with
      | true => simp only [if_true, lk, if_neg h]; exact ih
      | false => simp only [Bool.false_eq_true, if_false, lk, if_neg h]; exact ih
theorem setK_new {L : KL} {k : Int} {c : Nat} (h : lk L k = none) : setK (KD L) (.int k) (.str [c]) = KD (L ++ [(k, c)]) := by
  have ha : ((KD L).any fun p => eqK p.1 (.int k)) = false := by
    rw [lk_none] at h
    simp only [KD, List.any_map, List.any_eq_false, Function.comp, eqK_int, decide_eq_true_eq]
    exact fun p hp e => h (by rw [← e]; exact List.mem_map_of_mem hp)
  unfold setK
  rw [ha]
  simp [KD]
theorem fold_set : ∀ (M L : KL), (ks (L ++ M)).Nodup → M.foldl (fun acc p => setK acc (.int p.1) (.str [p.2])) (KD L) = KD (L ++ M)
  | [], L, _ => by simp
  | (k, c) :: M, L, h => by
    have hk : lk L k = none := by
      rw [lk_none]
      simp only [ks, List.map_append, List.map_cons, List.nodup_append] at h
      exact fun z => h.2.2 k z k (by simp) rfl
    simp only [List.foldl_cons, setK_new hk]
    rw [fold_set M (L ++ [(k, c)]) (by simpa using h)]
    simp
theorem merge_KD {L M : KL} (h : (ks (L ++ M)).Nodup) : mergeM (KD L) (KD M) = KD (L ++ M) := by
  rw [← fold_set M L h]
  unfold mergeM KD
  rw [List.foldl_map]
theorem Dk_KD {L : KL} (h : (ks L).Nodup) : Dk (KD L) (lk L) (ks L) := ⟨by simp [KD, ks], h, getK_KD L, fun k => lk_mem.symm⟩
/-- pieces of one sign each, joined -/
theorem put1_none {f : KF} {k : Int} {c : Nat} (h : f k = none) : put1 f k c = fun j => if k = j then some c else f j := by
  funext j; unfold put1; rw [h]; rfl
theorem putP_one : ∀ (M L : KL), (ks (L ++ M)).Nodup → putP (lk L) (M.map fun p => (p.1, [p.2])) = lk (L ++ M) ∧ keysP (ks L) (M.map fun p => (p.1, [p.2])) = ks (L ++ M)
  | [], L, _ => by simp [putP, keysP]
  | (k, c) :: M, L, h => by
    have hk : k ∉ ks L := by
      simp only [ks, List.map_append, List.map_cons, List.nodup_append] at h
      exact fun z => h.2.2 k z k (by simp) rfl
    have e1 : putZ (lk L) k [c] = lk (L ++ [(k, c)]) := by
      funext j
      simp only [putZ, put1, lk_app, lk_none.mpr hk, Option.getD_none, lk]
      by_cases e : k = j
      · subst e; simp [lk_none.mpr hk]
      · simp [e]
    have e2 : keysZ (ks L) k [c] = ks (L ++ [(k, c)]) := by simp only [keysZ, addK, if_neg hk, ks, List.map_append]; rfl
    obtain ⟨i1, i2⟩ := putP_one M (L ++ [(k, c)]) (by simpa using h)
    constructor
    · simp only [List.map_cons, putP, e1, i1, List.append_assoc, List.singleton_append]
    · simp only [List.map_cons, keysP]; rw [e2, i2]; simp
/-- how far all is known -/
structure Far (L : KL) (f : Int) : Prop where
  f0 : 0 ≤ f
  all : ∀ k, 0 ≤ k → k < f → k ∈ ks L
  no : f ∉ ks L
theorem Far.uniq {L : KL} {f g : Int} (a : Far L f) (b : Far L g) : f = g := by
  rcases Int.lt_trichotomy f g with h | h | h
  · exact absurd (b.all f a.f0 h) a.no
  · exact h
  · exact absurd (a.all g b.f0 h) b.no
theorem far_ex {L : KL} (B : Nat) (hB : ∀ k ∈ ks L, k < B) : ∃ f, Far L f ∧ f ≤ B := by
  have key : ∀ (n : Nat) (i : Int), 0 ≤ i → i + n = B → (∀ k, 0 ≤ k → k < i → k ∈ ks L) → ∃ f, Far L f ∧ f ≤ B := by
    intro n
    induction n with
    | zero => intro i h0 e h; exact ⟨i, ⟨h0, h, fun z => by have := hB i z; omega⟩, by omega⟩
    | succ n ih =>
      intro i h0 e h
      by_cases z : i ∈ ks L
      · exact ih (i + 1) (by omega) (by omega) fun k a b => by
          by_cases q : k = i
          · rw [q]; exact z
          · exact h k a (by omega)
      · exact ⟨i, ⟨h0, h, z⟩, by omega⟩
  exact key B 0 (Int.le_refl _) (by omega) fun k a b => by omega
/-- the signs of the numbers from a on -/
def rdyT (L : KL) (a f : Int) : List Nat := (List.range (f - a).toNat).map fun i : Nat => (lk L (a + i)).getD 0
theorem rdy_low {L : KL} {a f : Int} (hl : ∀ p ∈ L, 97 ≤ p.2 ∧ p.2 ≤ 122) (ha : ∀ k, a ≤ k → k < f → k ∈ ks L) : Low (rdyT L a f) := by
  intro c hc
  obtain ⟨i, hi, e⟩ := List.mem_map.mp hc
  have hi' := List.mem_range.mp hi
  have hm := ha (a + i) (by omega) (by omega)
  obtain ⟨d, hd⟩ := Option.isSome_iff_exists.mp (lk_mem.mpr hm)
  rw [hd] at e
  simp at e
  subst e
  exact hl _ (lk_in hd)
/-- a piece's signs with their numbers -/
def pcs (a : Int) : List Nat → KL
  | [] => []
  | c :: z => (a, c) :: pcs (a + 1) z
theorem pcs_len : ∀ (z : List Nat) (a : Int), (pcs a z).length = z.length
  | [], _ => rfl
  | _ :: z, a => by simp [pcs, pcs_len z]
theorem pcs_ks : ∀ (z : List Nat) (a k : Int), k ∈ ks (pcs a z) → a ≤ k ∧ k < a + z.length
  | [], _, k, h => by simp [pcs] at h
  | c :: z, a, k, h => by
    simp only [pcs, List.map_cons, List.mem_cons] at h
    simp only [List.length_cons]
    rcases h with rfl | h
    · omega
    · have := pcs_ks z (a + 1) k h; omega
theorem pcs_nd : ∀ (z : List Nat) (a : Int), (ks (pcs a z)).Nodup
  | [], _ => by simp [pcs]
  | c :: z, a => by
    simp only [pcs, List.map_cons, List.nodup_cons]
    exact ⟨fun h => by have := pcs_ks z _ _ h; omega, pcs_nd z _⟩
theorem pcs_zip : ∀ (z : List Nat) (a : Int) (m : Nat), (z.zipIdx m).map (fun p => (a + (p.2 : Int), p.1)) = pcs (a + m) z
  | [], _, _ => rfl
  | c :: z, a, m => by
    have := pcs_zip z a (m + 1)
    simp only [List.zipIdx_cons, List.map_cons, pcs, this]
    congr 2
    omega
theorem pcs_low : ∀ (z : List Nat) (a : Int), Low z → ∀ p ∈ pcs a z, 97 ≤ p.2 ∧ p.2 ≤ 122
  | [], _, _, p, h => by simp [pcs] at h
  | c :: z, a, hz, p, h => by
    rcases List.mem_cons.mp h with rfl | h
    · exact hz _ (List.mem_cons_self ..)
    · exact pcs_low z _ (fun d hd => hz d (List.mem_cons_of_mem _ hd)) p h
/-! told as a text -/
structure Gd (ds : List PyData) : Prop where
  lay : (PyData.list ds).canLay0 = true
  shw : (PyData.list ds).showable = true
  dep : (PyData.list ds).depth ≤ 60
  cst : shCost (.list ds) ≤ 16000000
noncomputable def txt (ds : List PyData) : List Nat := (PyData.list ds).shown.cps.toList
theorem Gd.repr {ds : List PyData} (h : Gd ds) {s : MS} {r : RV} (hr : rpd s r = some (.list ds)) : pReprD [r] s = .ok (.v (.str (txt ds))) s :=
  (e_reprL hr h.lay h.shw (Nat.le_trans h.dep (by decide)) (Nat.le_trans h.cst (by rw [szl]; decide))).1
theorem Gd.all {ds : List PyData} (h : Gd ds) {xs : List MV} (hx : pds xs = some ds) : (txt ds).all (· < 0x110000) = true :=
  (e_reprL (s := ⟨[], [], 0⟩) (r := .v (.lst xs)) (by show (pds xs).map PyData.list = _; rw [hx]; rfl) h.lay h.shw (Nat.le_trans h.dep (by decide)) (Nat.le_trans h.cst (by rw [szl]; decide))).2
theorem small_int {i : Int} (h : -100000 ≤ i ∧ i ≤ 100000) : i.natAbs.log2 < 1920 := by
  have a : i.natAbs < 2 ^ 1920 := Nat.lt_of_lt_of_le (by omega : i.natAbs < 100001) (by decide)
  by_cases z : i.natAbs = 0
  · rw [z]; decide
  · exact (Nat.log2_lt z).mpr a
theorem set_same {hp : List MO} {n : Nat} {o : MO} (h : hp[n]? = some o) : hp.set n o = hp := by
  apply List.ext_getElem?; intro i
  by_cases e : n = i
  · subst e
    obtain ⟨hl, q⟩ := List.getElem?_eq_some_iff.mp h
    simp [hl, q]
  · rw [List.getElem?_set_ne e]
theorem set_at {hp : List MO} {n : Nat} {o o' : MO} (h : hp[n]? = some o) : (hp.set n o')[n]? = some o' := by
  have := (List.getElem?_eq_some_iff.mp h).1
  simp [this]
def enV : Option Int → MV
  | none => .non
  | some e => .int e
@[simp] theorem enV_n : enV none = .non := rfl
@[simp] theorem enV_s {e : Int} : enV (some e) = .int e := rfl
theorem runs_bd (f : KF) (S : Int → Prop) : ∀ (l : List Int) (acc : List Pc) (n : Nat), (∀ k ∈ l, S k) → acc.length ≤ n → (∀ p ∈ acc, p.2.length ≤ n ∧ S p.1) → (l.foldl (stepR f) acc).length ≤ n + l.length ∧ ∀ p ∈ l.foldl (stepR f) acc, p.2.length ≤ n + l.length ∧ S p.1
  | [], acc, n, _, h1, h2 => ⟨h1, h2⟩
  | k :: l, acc, n, hl, h1, h2 => by
    have hg : (sg f k).length ≤ 1 := by unfold sg; split <;> simp
    have step : (stepR f acc k).length ≤ n + 1 ∧ ∀ p ∈ stepR f acc k, p.2.length ≤ n + 1 ∧ S p.1 := by
      unfold stepR
      split
      · rcases last_cases acc with e | ⟨A, q, e⟩
        · subst e; simp
        · subst e
          simp only [List.getLast?_append, List.getLast?_singleton, Option.some_or, List.dropLast_concat]
          refine ⟨by simp at h1 ⊢; omega, fun p hp => ?_⟩
          rcases List.mem_append.mp hp with z | z
          · have := h2 p (List.mem_append_left _ z); exact ⟨by omega, this.2⟩
          · simp at z
            have := h2 q (List.mem_append_right _ (by simp))
            rw [z]; exact ⟨by simp; omega, this.2⟩
      · refine ⟨by simp; omega, fun p hp => ?_⟩
        rcases List.mem_append.mp hp with z | z
        · have := h2 p z; exact ⟨by omega, this.2⟩
        · simp at z
          rw [z]; exact ⟨by simp; omega, hl k (List.mem_cons_self ..)⟩
    have := runs_bd f S l (stepR f acc k) (n + 1) (fun j hj => hl j (List.mem_cons_of_mem _ hj)) step.1 step.2
    simp only [List.foldl_cons, List.length_cons]
    rwa [show n + (l.length + 1) = n + 1 + l.length by omega]
/-! what joiners tell -/
def toldV (kn : Int) (rdy : List Nat) (rs : List Pc) (held lim : Int) (en : Option Int) (ov : Bool) : List MV := [.int kn, .str rdy, .lst (rs.map mvP), .int held, .int lim, enV en, .bl ov]
def enD : Option Int → PyData
  | none => .none
  | some e => .int e
def toldD (kn : Int) (rdy : List Nat) (rs : List Pc) (held lim : Int) (en : Option Int) (ov : Bool) : List PyData := [.int kn, .str ⟨rdy.toArray⟩, .list (rs.map pdP), .int held, .int lim, enD en, .bool ov]
theorem told_pd {kn : Int} {rdy : List Nat} {rs : List Pc} {held lim : Int} {en : Option Int} {ov : Bool} : pds (toldV kn rdy rs held lim en ov) = some (toldD kn rdy rs held lim en ov) := by
  have h : pd (.lst (rs.map mvP)) = some (.list (rs.map pdP)) := by show (pds (rs.map mvP)).map PyData.list = _; rw [pds_P]; rfl
  have h2 : pd (enV en) = some (enD en) := by cases en <;> rfl
  simp [toldV, toldD, pds, pd, pds_P, h2]
theorem told_gd {kn : Int} {rdy : List Nat} {rs : List Pc} {held lim : Int} {en : Option Int} {ov : Bool} (h1 : -100000 ≤ kn ∧ kn ≤ 100000) (h2 : Low rdy) (h3 : rdy.length ≤ 100000) (h4 : ∀ p ∈ rs, Low p.2 ∧ p.2.length ≤ 1000 ∧ 0 ≤ p.1 ∧ p.1 < 100000) (h5 : rs.length ≤ 1000)
    (h6 : -100000 ≤ held ∧ held ≤ 100000) (h7 : -100000 ≤ lim ∧ lim ≤ 100000) (h8 : ∀ e, en = some e → -100000 ≤ e ∧ e ≤ 100000) : Gd (toldD kn rdy rs held lim en ov) := by
  have c1 := canLay_P rs fun p hp => (h4 p hp).1
  have c2 := show_P 100000 (by decide) rs fun p hp => (h4 p hp).2.2
  have c3 := depth_P rs
  have c4 := cost_P 1000 rs fun p hp => (h4 p hp).2.1
  have e1 : (enD en).canLay0 = true := by cases en <;> rfl
  have e2 : (enD en).showable = true := by
    cases en with
    | none => rfl
    | some e => simp [enD, PyData.showable, small_int (h8 e rfl)]
  have e3 : (enD en).depth ≤ 5 := by cases en <;> simp [enD, PyData.depth]
  have e4 : shCost (enD en) ≤ 2000 := by cases en <;> simp [enD, shCost]
  have e5 : (⟨rdy.toArray⟩ : Str).length = rdy.length := by simp [Str.length]
  refine ⟨?_, ?_, ?_, ?_⟩
  · simp [toldD, PyData.canLay0, PyData.canLayAll0, c1, e1, strOk_low h2]
  · simp [toldD, PyData.showable, PyData.showableAll, c2, e2, small_int h1, small_int h6, small_int h7]
  · simp [toldD, PyData.depth, PyData.depthAll]; omega
  · simp only [toldD, shCost, shCostAll, e5]; omega
theorem rpd_loc {s : MS} {i : Nat} {xs : List MV} (h : s.env[i]? = some (some (.own (.lst xs)))) : rpd s (.loc i) = (pds xs).map .list := by
  show (match cont s (.loc i) with | some (.lst xs) => (pds xs).map PyData.list | _ => none) = _
  rw [cont_loc, h]
theorem rpd_own {s : MS} {xs : List MV} : rpd s (.own (.lst xs)) = (pds xs).map .list := rfl
theorem forRange {j : Nat} {body : MSt} (n : Nat) (P : Nat → MS → Prop) (s : MS) (h0 : P 0 s) (h : ∀ i, i < n → ∀ s, P i s → ∃ s1, gN j (.int (i : Nat)) s = some s1 ∧ Ok (body s1) fun fl s2 => fl = .next ∧ P (i + 1) s2) :
    Ok (forGo (fun _ => True) (gN j) body ((List.range n).map fun i : Nat => .int i) s) fun fl s2 => fl = .next ∧ P n s2 := by
  have key := forGo_ix (chk := fun _ => True) (tg := gN j) (body := body) P (fun _ _ _ => trivial) ((List.range n).map fun i : Nat => .int i) 0 s h0 fun i x hx s hs => by
    obtain ⟨hl, e⟩ := List.getElem?_eq_some_iff.mp hx
    simp at hl e
    subst e
    rw [Nat.zero_add] at *
    exact h i hl s hs
  simpa using key
theorem says_of {n : Nat} {fb : MSt} {ns : List Int} (h : Ok (fb ⟨env0 n [.lst (ns.map .int)], [], 0⟩) fun fl _ => fl = .ret (.v (.bl true))) : Says (runOf n fb) ns := by
  obtain ⟨fl, s, e, rfl⟩ := h.get
  exact ⟨s.hp, by unfold runOf; simp only [List.length_nil]; rw [e]⟩
end Mi
set_option Elab.async false
set_option linter.all false
set_option maxRecDepth 100000
set_option maxHeartbeats 4000000
-- exceptions NoRoom=0 NoPiece=1 NoEnd=2 NoNumber=3
-- classes Joiner=0
namespace L_k09
open PySem PySem.Spec PyProof.Rows L2 Mi
def top (i : Nat) : Stmt := PySem.Challenge.pw_roadbundle_k09_joiners_refuse.main.body.getD i (.Pass ⟨0, 0, 0, 0⟩)
def km0 (c : Nat) : Option Bool := if c = 0 then some true else if c = 1 then some false else if c = 2 then some false else if c = 3 then some false else none
def km1 (c : Nat) : Option Bool := if c = 0 then some false else if c = 1 then some true else if c = 2 then some false else if c = 3 then some false else none
def km2 (c : Nat) : Option Bool := if c = 0 then some false else if c = 1 then some false else if c = 2 then some true else if c = 3 then some false else none
def km3 (c : Nat) : Option Bool := if c = 0 then some false else if c = 1 then some false else if c = 2 then some false else if c = 3 then some true else none
def ct0132 (c : Nat) : Option Bool := if c = 0 then some true else if c = 1 then some true else if c = 3 then some true else if c = 2 then some true else none
def kb_ValueError (c : Nat) : Option Bool := if c = 0 then some true else if c = 1 then some true else if c = 2 then some true else if c = 3 then some true else none
/-- is_whole -/
abbrev s0 : Stmt := top 8
noncomputable def b0 : MSt := (mRet (mAnd (mIsi "int" (mVar 0)) (mNot (mIsi "bool" (mVar 0)))))
noncomputable def r0 : Fn := runOf 1 b0
theorem sc0 : FnScope ["thing"] ["thing"] (defScope s0) := ⟨rfl, rfl, rfl, by decide +kernel, rfl, by decide +kernel, by decide +kernel⟩
/-- look_at_room -/
abbrev s1 : Stmt := top 16
noncomputable def b1 : MSt := (mIf (mOrT (mNotT (mTest (mCall r0 1 (mConsS (mVar 0) (fun s => .ok [] s))))) (mNotT (mTestB (mChain opLe opLe (mC (.int 1)) (mVar 0) (mC (.int 400)))))) (mRaise 0) mNext)
noncomputable def r1 : Fn := runOf 1 b1
theorem sc1 : FnScope ["thing"] ["thing"] (defScope s1) := ⟨rfl, rfl, rfl, by decide +kernel, rfl, by decide +kernel, by decide +kernel⟩
/-- Joiner.init -/
abbrev s2 : Stmt := inClass (top 17) 0
noncomputable def b2 : MSt := (mSeq (mExpr (mCall r1 1 (mConsS (mVar 1) (fun s => .ok [] s)))) (mSeq (mSetFld 0 0 (mVar 1) (mVar 0)) (mSeq (mSetFld 0 1 mDict0 (mVar 0)) (mSeq (mSetFld 0 2 (mC (.int 0)) (mVar 0)) (mSeq (mSetFld 0 3 (mC (.int 0)) (mVar 0)) (mSetFld 0 4 (mC .non) (mVar 0)))))))
noncomputable def r2 : Fn := runOf 2 b2
theorem sc2 : FnScope ["self", "room"] ["self", "room"] (defScope s2) := ⟨rfl, rfl, rfl, by decide +kernel, rfl, by decide +kernel, by decide +kernel⟩
/-- Joiner.limit -/
abbrev s3 : Stmt := inClass (top 17) 9
noncomputable def b3 : MSt := (mRet (mBin opAdd (mFld 0 2 (mVar 0)) (mFld 0 0 (mVar 0))))
noncomputable def r3 : Fn := runOf 1 b3
theorem sc3 : FnScope ["self"] ["self"] (defScope s3) := ⟨rfl, rfl, rfl, by decide +kernel, rfl, by decide +kernel, by decide +kernel⟩
/-- Joiner.is_new -/
abbrev s4 : Stmt := inClass (top 17) 1
noncomputable def b4 : MSt := (mSeq (mIf (mOrT (mTestB (mBin opLt (mVar 1) (mFld 0 3 (mVar 0)))) (mOrT (mTestB (mBin (opInA false) (mVar 1) (mFld 0 1 (mVar 0)))) (mTestB (mBin opGe (mVar 1) (mMeth 0 r3 1 (mVar 0) (fun s => .ok [] s)))))) (mRet (mC (.bl false))) mNext) (mRet (mOr (mBin (opIs false) (mFld 0 4 (mVar 0)) (mC .non)) (mBin opLt (mVar 1) (mFld 0 4 (mVar 0))))))
noncomputable def r4 : Fn := runOf 2 b4
theorem sc4 : FnScope ["self", "number"] ["self", "number"] (defScope s4) := ⟨rfl, rfl, rfl, by decide +kernel, rfl, by decide +kernel, by decide +kernel⟩
/-- is_from -/
abbrev s5 : Stmt := top 9
noncomputable def b5 : MSt := (mRet (mAnd (mCall r0 1 (mConsS (mVar 0) (fun s => .ok [] s))) (mBin opGe (mVar 0) (mVar 1))))
noncomputable def r5 : Fn := runOf 2 b5
theorem sc5 : FnScope ["thing", "least"] ["thing", "least"] (defScope s5) := ⟨rfl, rfl, rfl, by decide +kernel, rfl, by decide +kernel, by decide +kernel⟩
/-- is_signs -/
abbrev s6 : Stmt := top 10
noncomputable def b6 : MSt := (mRet (mAnd (mIsi "str" (mVar 0)) (mCallB (pAll (·.all id)) (mCons (mLc [1] (mIt (mVar 0)) (gN 1) mYes (mBin (opInA false) (mVar 1) (mC (.str [97, 98, 99, 100, 101, 102, 103, 104, 105, 106, 107, 108, 109, 110, 111, 112, 113, 114, 115, 116, 117, 118, 119, 120, 121, 122])))) (fun s => .ok [] s)))))
noncomputable def r6 : Fn := runOf 2 b6
theorem sc6 : FnScope ["thing", "sign"] ["thing"] (defScope s6) := ⟨rfl, rfl, rfl, by decide +kernel, rfl, by decide +kernel, by decide +kernel⟩
/-- is_piece -/
abbrev s7 : Stmt := top 12
noncomputable def b7 : MSt := (mSeq (mIf (mOrT (mNotT (mTest (mIsi "tuple" (mVar 0)))) (mTestB (mBin (opEqv true) (mCallB pLen (mCons (mVar 0) (fun s => .ok [] s))) (mC (.int 2))))) (mRet (mC (.bl false))) mNext) (mRet (mAnd (mCall r5 2 (mConsS (mBin opIxA (mVar 0) (mC (.int 0))) (mConsS (mC (.int 0)) (fun s => .ok [] s)))) (mAnd (mCall r6 1 (mConsS (mBin opIxA (mVar 0) (mC (.int 1))) (fun s => .ok [] s))) (mBin (opEqv true) (mBin opIxA (mVar 0) (mC (.int 1))) (mC (.str [])))))))
noncomputable def r7 : Fn := runOf 1 b7
theorem sc7 : FnScope ["thing"] ["thing"] (defScope s7) := ⟨rfl, rfl, rfl, by decide +kernel, rfl, by decide +kernel, by decide +kernel⟩
/-- Joiner.take -/
abbrev s8 : Stmt := inClass (top 17) 2
noncomputable def b8f0 : MSt := (mAugFld 0 3 opIAdd (mVar 0) (mC (.int 1)))
noncomputable def b8 : MSt := (mSeq (mIf (mNotT (mTest (mCall r7 1 (mConsS (mVar 1) (fun s => .ok [] s))))) (mRaise 1) mNext) (mSeq (mAsg (mVar 1) (gT 2 (gsCons (gN 2) (gsCons (gN 3) gsNil)))) (mSeq (mSet 4 (mDc [5, 6] (mEnum 0 (mVar 3)) (gT 2 (gsCons (gN 5) (gsCons (gN 6) gsNil))) (mTest (mMeth 0 r4 2 (mVar 0) (mConsS (mBin opAdd (mVar 2) (mVar 5)) (fun s => .ok [] s)))) (mBin opAdd (mVar 2) (mVar 5)) (mVar 6))) (mSeq (mExpr (mDM dUpdate (mFld 0 1 (mVar 0)) (mConsS (mVar 4) (fun s => .ok [] s)))) (mSeq (mWhile (mTestB (mBin (opInA false) (mFld 0 3 (mVar 0)) (mFld 0 1 (mVar 0)))) b8f0) (mRet (mCallB pLenA (mCons (mVar 4) (fun s => .ok [] s)))))))))
noncomputable def r8 : Fn := runOf 7 b8
theorem sc8 : FnScope ["self", "piece", "first", "signs", "fresh", "place", "sign"] ["self", "piece"] (defScope s8) := ⟨rfl, rfl, rfl, by decide +kernel, rfl, by decide +kernel, by decide +kernel⟩
/-- joined -/
abbrev s9 : Stmt := top 13
noncomputable def b9f0 : MSt := (mExpr (mSetd (mVar 1) (mBin opAdd (mVar 2) (mVar 4)) (mVar 5)))
noncomputable def b9f1 : MSt := (mFor (mEnum 0 (mVar 3)) (gT 2 (gsCons (gN 4) (gsCons (gN 5) gsNil))) b9f0)
noncomputable def b9f2 : MSt := (mIf (mTestB (mBin (opInA false) (mBin opSub (mVar 7) (mC (.int 1))) (mVar 1))) (mSeq (mAsg (mLM lPop (mVar 6) (fun s => .ok [] s)) (gT 2 (gsCons (gN 2) (gsCons (gN 3) gsNil)))) (mExpr (mLM lAppend (mVar 6) (mConsS (mTup (mConsS (mVar 2) (mConsS (mBin opAdd (mVar 3) (mBin opIxA (mVar 1) (mVar 7))) (fun s => .ok [] s)))) (fun s => .ok [] s))))) (mExpr (mLM lAppend (mVar 6) (mConsS (mTup (mConsS (mVar 7) (mConsS (mBin opIxA (mVar 1) (mVar 7)) (fun s => .ok [] s)))) (fun s => .ok [] s)))))
noncomputable def b9 : MSt := (mSeq (mSet 1 mDict0) (mSeq (mFor (mIt (mVar 0)) (gT 2 (gsCons (gN 2) (gsCons (gN 3) gsNil))) b9f1) (mSeq (mSet 6 (mLst (fun s => .ok [] s))) (mSeq (mFor (mIt (mCallB pSorted (mCons (mVar 1) (fun s => .ok [] s)))) (gN 7) b9f2) (mRet (mVar 6))))))
noncomputable def r9 : Fn := runOf 8 b9
theorem sc9 : FnScope ["pieces", "known", "first", "signs", "place", "sign", "found", "number"] ["pieces"] (defScope s9) := ⟨rfl, rfl, rfl, by decide +kernel, rfl, by decide +kernel, by decide +kernel⟩
/-- Joiner.beyond -/
abbrev s10 : Stmt := inClass (top 17) 7
noncomputable def b10 : MSt := (mRet (mCall r9 1 (mConsS (mLk (mFld 0 1 (mVar 0)) (mLc [1, 2] (mItems (mFld 0 1 (mVar 0))) (gT 2 (gsCons (gN 1) (gsCons (gN 2) gsNil))) (mTestB (mBin opGt (mVar 1) (mFld 0 3 (mVar 0)))) (mTup (mConsS (mVar 1) (mConsS (mVar 2) (fun s => .ok [] s)))))) (fun s => .ok [] s))))
noncomputable def r10 : Fn := runOf 3 b10
theorem sc10 : FnScope ["self", "number", "sign"] ["self"] (defScope s10) := ⟨rfl, rfl, rfl, by decide +kernel, rfl, by decide +kernel, by decide +kernel⟩
/-- Joiner.ended -/
abbrev s11 : Stmt := inClass (top 17) 10
noncomputable def b11 : MSt := (mRet (mFld 0 4 (mVar 0)))
noncomputable def r11 : Fn := runOf 1 b11
theorem sc11 : FnScope ["self"] ["self"] (defScope s11) := ⟨rfl, rfl, rfl, by decide +kernel, rfl, by decide +kernel, by decide +kernel⟩
/-- Joiner.held -/
abbrev s12 : Stmt := inClass (top 17) 8
noncomputable def b12 : MSt := (mRet (mCallB pLenA (mCons (mFld 0 1 (mVar 0)) (fun s => .ok [] s))))
noncomputable def r12 : Fn := runOf 1 b12
theorem sc12 : FnScope ["self"] ["self"] (defScope s12) := ⟨rfl, rfl, rfl, by decide +kernel, rfl, by decide +kernel, by decide +kernel⟩
/-- Joiner.is_over -/
abbrev s13 : Stmt := inClass (top 17) 11
noncomputable def b13 : MSt := (mRet (mBin (opEqv false) (mFld 0 4 (mVar 0)) (mFld 0 3 (mVar 0))))
noncomputable def r13 : Fn := runOf 1 b13
theorem sc13 : FnScope ["self"] ["self"] (defScope s13) := ⟨rfl, rfl, rfl, by decide +kernel, rfl, by decide +kernel, by decide +kernel⟩
/-- Joiner.known -/
abbrev s14 : Stmt := inClass (top 17) 6
noncomputable def b14 : MSt := (mRet (mFld 0 3 (mVar 0)))
noncomputable def r14 : Fn := runOf 1 b14
theorem sc14 : FnScope ["self"] ["self"] (defScope s14) := ⟨rfl, rfl, rfl, by decide +kernel, rfl, by decide +kernel, by decide +kernel⟩
/-- Joiner.ready -/
abbrev s15 : Stmt := inClass (top 17) 5
noncomputable def b15 : MSt := (mRet (mSM pJoin (mC (.str [])) (mCons (mLc [1] (mRange2 (mCons (mFld 0 2 (mVar 0)) (mCons (mFld 0 3 (mVar 0)) (fun s => .ok [] s)))) (gN 1) mYes (mBin opIxA (mFld 0 1 (mVar 0)) (mVar 1))) (fun s => .ok [] s))))
noncomputable def r15 : Fn := runOf 2 b15
theorem sc15 : FnScope ["self", "number"] ["self"] (defScope s15) := ⟨rfl, rfl, rfl, by decide +kernel, rfl, by decide +kernel, by decide +kernel⟩
/-- box_told -/
abbrev s16 : Stmt := top 22
noncomputable def b16 : MSt := (mSeq (mSet 1 (mLst (mConsS (mMeth 0 r14 1 (mVar 0) (fun s => .ok [] s)) (mConsS (mMeth 0 r15 1 (mVar 0) (fun s => .ok [] s)) (mConsS (mMeth 0 r10 1 (mVar 0) (fun s => .ok [] s)) (mConsS (mMeth 0 r12 1 (mVar 0) (fun s => .ok [] s)) (mConsS (mMeth 0 r3 1 (mVar 0) (fun s => .ok [] s)) (mConsS (mMeth 0 r11 1 (mVar 0) (fun s => .ok [] s)) (mConsS (mMeth 0 r13 1 (mVar 0) (fun s => .ok [] s)) (fun s => .ok [] s)))))))))) (mRet (mCallB pReprD (mCons (mVar 1) (fun s => .ok [] s)))))
noncomputable def r16 : Fn := runOf 2 b16
theorem sc16 : FnScope ["_law_box", "_law_found"] ["_law_box"] (defScope s16) := ⟨rfl, rfl, rfl, by decide +kernel, rfl, by decide +kernel, by decide +kernel⟩
/-- pool -/
abbrev s17 : Stmt := top 19
noncomputable def b17 : MSt := (mSeq (mSet 2 (mBin opIxA (mBin opAdd (mSlice (mVar 0) (mPart (mVar 1)) (mPart (mBin opAdd (mVar 1) (mC (.int 1))))) (mLst (mConsS (mC (.int 0)) (fun s => .ok [] s)))) (mC (.int 0)))) (mSeq (mSet 3 (mCallB pAbs (mCons (mVar 2) (fun s => .ok [] s)))) (mSeq (mSet 4 (mBin opMod (mBin opMul (mBin opAdd (mBin opAdd (mBin opMod (mVar 3) (mC (.int 2147483579))) (mBin opMul (mC (.int 5923)) (mVar 1))) (mC (.int 61))) (mC (.int 48271))) (mC (.int 2147483647)))) (mRet (mLst (mConsS (mBin opMul (mVar 3) (mCallB pInt (mCons (mBin opGe (mVar 3) (mBin opPow (mC (.int 10)) (mC (.int 18)))) (fun s => .ok [] s)))) (mConsS (mVar 4) (fun s => .ok [] s))))))))
noncomputable def r17 : Fn := runOf 5 b17
theorem sc17 : FnScope ["_law_script", "_law_k", "_law_cell", "_law_size", "_law_mixed"] ["_law_script", "_law_k"] (defScope s17) := ⟨rfl, rfl, rfl, by decide +kernel, rfl, by decide +kernel, by decide +kernel⟩
/-- Joiner.end -/
abbrev s18 : Stmt := inClass (top 17) 3
noncomputable def b18 : MSt := (mSeq (mIf (mOrT (mNotT (mTest (mCall r5 2 (mConsS (mVar 1) (mConsS (mC (.int 0)) (fun s => .ok [] s)))))) (mOrT (mTestB (mBin opLt (mVar 1) (mFld 0 3 (mVar 0)))) (mTest (mCallB (pAll (·.any id)) (mCons (mLk (mFld 0 1 (mVar 0)) (mLc [2] (mKeys (mFld 0 1 (mVar 0))) (gN 2) mYes (mBin opGe (mVar 2) (mVar 1)))) (fun s => .ok [] s)))))) (mRaise 2) mNext) (mSeq (mIf (mTestB (mBin (opInA true) (mFld 0 4 (mVar 0)) (mTup (mConsS (mC .non) (mConsS (mVar 1) (fun s => .ok [] s)))))) (mRaise 2) mNext) (mSetFld 0 4 (mVar 1) (mVar 0))))
noncomputable def r18 : Fn := runOf 3 b18
theorem sc18 : FnScope ["self", "at", "number"] ["self", "at"] (defScope s18) := ⟨rfl, rfl, rfl, by decide +kernel, rfl, by decide +kernel, by decide +kernel⟩
/-- Joiner.read -/
abbrev s19 : Stmt := inClass (top 17) 4
noncomputable def b19f0 : MSt := (mExpr (mDPop (mFld 0 1 (mVar 0)) (mBin opAdd (mFld 0 2 (mVar 0)) (mVar 3))))
noncomputable def b19 : MSt := (mSeq (mIf (mNotT (mTest (mCall r5 2 (mConsS (mVar 1) (mConsS (mC (.int 0)) (fun s => .ok [] s)))))) (mRaise 3) mNext) (mSeq (mSet 2 (mSlice (mMeth 0 r15 1 (mVar 0) (fun s => .ok [] s)) (fun s => .ok none s) (mPart (mVar 1)))) (mSeq (mFor (mRange1 (mCons (mCallB pLen (mCons (mVar 2) (fun s => .ok [] s))) (fun s => .ok [] s))) (gN 3) b19f0) (mSeq (mAugFld 0 2 opIAdd (mVar 0) (mCallB pLen (mCons (mVar 2) (fun s => .ok [] s)))) (mRet (mVar 2))))))
noncomputable def r19 : Fn := runOf 4 b19
theorem sc19 : FnScope ["self", "many", "found", "place"] ["self", "many"] (defScope s19) := ⟨rfl, rfl, rfl, by decide +kernel, rfl, by decide +kernel, by decide +kernel⟩
/-- refused -/
abbrev s20 : Stmt := top 23
noncomputable def b20 : MSt := (mSeq (mSet 3 (mC .non)) (mSeq (mTryE ct0132 4 3 (mIf (mTestB (mBin (opEqv false) (mVar 1) (mC (.int 0)))) (mExpr (mMake 0 5 r2 2 (mConsS (mVar 2) (fun s => .ok [] s)))) (mIf (mTestB (mBin (opEqv false) (mVar 1) (mC (.int 1)))) (mExpr (mMeth 0 r8 2 (mVar 0) (mConsS (mVar 2) (fun s => .ok [] s)))) (mIf (mTestB (mBin (opEqv false) (mVar 1) (mC (.int 2)))) (mExpr (mMeth 0 r19 2 (mVar 0) (mConsS (mVar 2) (fun s => .ok [] s)))) (mExpr (mMeth 0 r18 2 (mVar 0) (mConsS (mVar 2) (fun s => .ok [] s)))))))) (mSeq (mSet 5 (mLst (mConsS (mIsX km0 (mVar 3)) (mConsS (mIsX km1 (mVar 3)) (mConsS (mIsX km3 (mVar 3)) (mConsS (mIsX km2 (mVar 3)) (fun s => .ok [] s))))))) (mRet (mAnd (mBin (opEqv false) (mVar 5) (mLc [6] (mRange1 (mCons (mC (.int 4)) (fun s => .ok [] s))) (gN 6) mYes (mBin (opEqv false) (mVar 6) (mVar 1)))) (mIsX kb_ValueError (mVar 3)))))))
noncomputable def r20 : Fn := runOf 7 b20
theorem sc20 : FnScope ["_law_box", "_law_door", "_law_item", "_law_kept", "e", "_law_kinds", "_law_at"] ["_law_box", "_law_door", "_law_item"] (defScope s20) := ⟨rfl, rfl, rfl, by decide +kernel, rfl, by decide +kernel, by decide +kernel⟩
/-- take -/
abbrev s21 : Stmt := top 20
noncomputable def b21 : MSt := (mSeq (mIf (mTestB (mBin opGt (mBin opIxA (mVar 0) (mC (.int 0))) (mC (.int 0)))) (mSeq (mSet 2 (mBin opMod (mBin opIxA (mVar 0) (mC (.int 0))) (mVar 1))) (mSeq (mSetIxA (mBin opDiv (mBin opIxA (mVar 0) (mC (.int 0))) (mVar 1)) (mVar 0) (mC (.int 0))) (mRet (mVar 2)))) mNext) (mSeq (mSetIxA (mBin opMod (mBin opAdd (mBin opMul (mBin opIxA (mVar 0) (mC (.int 1))) (mC (.int 40014))) (mC (.int 7919))) (mC (.int 2147483647))) (mVar 0) (mC (.int 1))) (mRet (mBin opMod (mBin opDiv (mBin opMod (mBin opMul (mBin opIxA (mVar 0) (mC (.int 1))) (mBin opIxA (mVar 0) (mC (.int 1)))) (mC (.int 2147483629))) (mC (.int 32))) (mVar 1)))))
noncomputable def r21 : Fn := runOf 3 b21
theorem sc21 : FnScope ["_law_pool_here", "_law_many", "_law_found"] ["_law_pool_here", "_law_many"] (defScope s21) := ⟨rfl, rfl, rfl, by decide +kernel, rfl, by decide +kernel, by decide +kernel⟩
/-- signs -/
abbrev s22 : Stmt := top 21
noncomputable def b22 : MSt := (mRet (mSM pJoin (mC (.str [])) (mCons (mLc [2] (mRange1 (mCons (mVar 1) (fun s => .ok [] s))) (gN 2) mYes (mBin opIxA (mC (.str [97, 98, 99, 121, 122])) (mCall r21 2 (mConsS (mVar 0) (mConsS (mC (.int 5)) (fun s => .ok [] s)))))) (fun s => .ok [] s))))
noncomputable def r22 : Fn := runOf 3 b22
theorem sc22 : FnScope ["_law_pool_here", "_law_many", "_law_turn"] ["_law_pool_here", "_law_many"] (defScope s22) := ⟨rfl, rfl, rfl, by decide +kernel, rfl, by decide +kernel, by decide +kernel⟩
/-- the law -/
abbrev s23 : Stmt := top 24
noncomputable def b23f0 : MSt := (mExpr (mMeth 0 r8 2 (mVar 5) (mConsS (mTup (mConsS (mCall r21 2 (mConsS (mVar 4) (mConsS (mC (.int 12)) (fun s => .ok [] s)))) (mConsS (mCall r22 2 (mConsS (mVar 4) (mConsS (mBin opAdd (mC (.int 1)) (mCall r21 2 (mConsS (mVar 4) (mConsS (mC (.int 6)) (fun s => .ok [] s))))) (fun s => .ok [] s)))) (fun s => .ok [] s)))) (fun s => .ok [] s))))
noncomputable def b23f1 : MSt := (mIf (mOrT (mNotT (mTest (mCall r20 3 (mConsS (mVar 5) (mConsS (mVar 8) (mConsS (mVar 10) (fun s => .ok [] s))))))) (mTestB (mBin (opEqv true) (mCall r16 1 (mConsS (mVar 5) (fun s => .ok [] s))) (mVar 7)))) (mRet (mC (.bl false))) mNext)
noncomputable def b23f2 : MSt := (mSeq (mSet 9 (mCall r21 2 (mConsS (mVar 4) (mConsS (mCallB pLen (mCons (mBin opIxA (mVar 2) (mVar 8)) (fun s => .ok [] s))) (fun s => .ok [] s))))) (mFor (mIt (mBin opAdd (mSlice (mBin opIxA (mVar 2) (mVar 8)) (mPart (mVar 9)) (fun s => .ok none s)) (mSlice (mBin opIxA (mVar 2) (mVar 8)) (fun s => .ok none s) (mPart (mVar 9))))) (gN 10) b23f1))
noncomputable def b23f3 : MSt := (mSeq (mSet 4 (mBox (mCall r17 2 (mConsS (mVar 0) (mConsS (mVar 3) (fun s => .ok [] s)))))) (mSeq (mSet 5 (mMake 0 5 r2 2 (mConsS (mBin opAdd (mC (.int 1)) (mBin opMul (mC (.int 399)) (mCall r21 2 (mConsS (mVar 4) (mConsS (mC (.int 2)) (fun s => .ok [] s)))))) (fun s => .ok [] s)))) (mSeq (mFor (mRange1 (mCons (mCall r21 2 (mConsS (mVar 4) (mConsS (mC (.int 6)) (fun s => .ok [] s)))) (fun s => .ok [] s))) (gN 6) b23f0) (mSeq (mSet 7 (mCall r16 1 (mConsS (mVar 5) (fun s => .ok [] s)))) (mFor (mRange1 (mCons (mC (.int 4)) (fun s => .ok [] s))) (gN 8) b23f2)))))
noncomputable def b23 : MSt := (mSeq (mSet 1 (mLst (mConsS (mC .non) (mConsS (mC (.bl true)) (mConsS (mC (.bl false)) (mConsS (mNeg (mC (.int 1))) (mConsS (mC (.str [49])) (mConsS (mC (.str [])) (mConsS (mC (.str [97])) (mConsS (mTup (fun s => .ok [] s)) (mConsS (mLst (fun s => .ok [] s)) (mConsS mDict0 (mConsS (mTup (mConsS (mC (.int 0)) (fun s => .ok [] s))) (mConsS (mLst (mConsS (mC (.int 0)) (mConsS (mC (.str [97])) (fun s => .ok [] s)))) (mConsS (mC (.str [48, 58, 97])) (mConsS (mTup (mConsS (mC (.int 1)) (mConsS (mC (.int 2)) (fun s => .ok [] s)))) (fun s => .ok [] s))))))))))))))))) (mSeq (mSet 2 (mLst (mConsS (mBin opAdd (mVar 1) (mLst (mConsS (mC (.int 0)) (mConsS (mC (.int 401)) (mConsS (mBin opPow (mC (.int 10)) (mC (.int 20))) (mConsS (mTup (mConsS (mC (.int 0)) (mConsS (mC (.str [97])) (fun s => .ok [] s)))) (fun s => .ok [] s))))))) (mConsS (mBin opAdd (mVar 1) (mLst (mConsS (mC (.int 0)) (mConsS (mC (.int 5)) (mConsS (mTup (mConsS (mC (.int 0)) (mConsS (mC (.str [])) (fun s => .ok [] s)))) (mConsS (mTup (mConsS (mNeg (mC (.int 1))) (mConsS (mC (.str [97])) (fun s => .ok [] s)))) (mConsS (mTup (mConsS (mC (.int 0)) (mConsS (mC (.str [65])) (fun s => .ok [] s)))) (mConsS (mTup (mConsS (mC (.int 0)) (mConsS (mC (.str [97])) (mConsS (mC (.int 1)) (fun s => .ok [] s))))) (mConsS (mTup (mConsS (mC (.bl true)) (mConsS (mC (.str [97])) (fun s => .ok [] s)))) (fun s => .ok [] s)))))))))) (fun s => .ok [] s))))) (mSeq (mSet 2 (mBin opAdd (mVar 2) (mLst (mConsS (mBin opAdd (mVar 1) (mLst (mConsS (mNeg (mC (.int 5))) (mConsS (mTup (mConsS (mC (.int 0)) (mConsS (mC (.str [97])) (fun s => .ok [] s)))) (fun s => .ok [] s))))) (mConsS (mBin opAdd (mVar 1) (mLst (mConsS (mNeg (mC (.int 5))) (mConsS (mTup (mConsS (mC (.int 0)) (mConsS (mC (.str [97])) (fun s => .ok [] s)))) (fun s => .ok [] s))))) (fun s => .ok [] s)))))) (mSeq (mFor (mRange1 (mCons (mCallB pMax (mCons (mC (.int 1)) (mCons (mCallB pMin (mCons (mCallB pLen (mCons (mVar 0) (fun s => .ok [] s))) (mCons (mC (.int 12)) (fun s => .ok [] s)))) (fun s => .ok [] s)))) (fun s => .ok [] s))) (gN 3) b23f3) (mRet (mC (.bl true)))))))
noncomputable def r23 : Fn := runOf 11 b23
theorem sc23 : FnScope ["_law_script", "_law_both", "_law_odd", "_law_k", "_law_pool_here", "_law_box", "_law_turn", "_law_kept", "_law_door", "_law_first", "_law_item"] ["_law_script"] (defScope s23) := ⟨rfl, rfl, rfl, by decide +kernel, rfl, by decide +kernel, by decide +kernel⟩
abbrev RK (K : PySem.W.Frag) (C0 : Addr) (E0 : Addr) (E1 : Addr) (E2 : Addr) (E3 : Addr) : RC := ⟨K, fun c => match c with | 0 => C0 | _ => 0, fun c => match c with | 0 => ["own_room", "own_signs", "many_read", "many_known", "own_end"] | _ => [], fun c => match c with | 0 => E0 | 1 => E1 | 2 => E2 | 3 => E3 | _ => 0, fun _ => []⟩
theorem nd0 : (["own_room", "own_signs", "many_read", "many_known", "own_end"] : List Str).Nodup := by decide +kernel
theorem hl0 : (["own_room", "own_signs", "many_read", "many_known", "own_end"] : List Str).length < 1000 := by decide +kernel
theorem nm2 : ("__init__" : Str) ∉ (["own_room", "own_signs", "many_read", "many_known", "own_end"] : List Str) := by decide +kernel
theorem nm3 : ("limit" : Str) ∉ (["own_room", "own_signs", "many_read", "many_known", "own_end"] : List Str) := by decide +kernel
theorem nm4 : ("is_new" : Str) ∉ (["own_room", "own_signs", "many_read", "many_known", "own_end"] : List Str) := by decide +kernel
theorem nm8 : ("take" : Str) ∉ (["own_room", "own_signs", "many_read", "many_known", "own_end"] : List Str) := by decide +kernel
theorem nm10 : ("beyond" : Str) ∉ (["own_room", "own_signs", "many_read", "many_known", "own_end"] : List Str) := by decide +kernel
theorem nm11 : ("ended" : Str) ∉ (["own_room", "own_signs", "many_read", "many_known", "own_end"] : List Str) := by decide +kernel
theorem nm12 : ("held" : Str) ∉ (["own_room", "own_signs", "many_read", "many_known", "own_end"] : List Str) := by decide +kernel
theorem nm13 : ("is_over" : Str) ∉ (["own_room", "own_signs", "many_read", "many_known", "own_end"] : List Str) := by decide +kernel
theorem nm14 : ("known" : Str) ∉ (["own_room", "own_signs", "many_read", "many_known", "own_end"] : List Str) := by decide +kernel
theorem nm15 : ("ready" : Str) ∉ (["own_room", "own_signs", "many_read", "many_known", "own_end"] : List Str) := by decide +kernel
theorem nm18 : ("end" : Str) ∉ (["own_room", "own_signs", "many_read", "many_known", "own_end"] : List Str) := by decide +kernel
theorem nm19 : ("read" : Str) ∉ (["own_room", "own_signs", "many_read", "many_known", "own_end"] : List Str) := by decide +kernel
abbrev es0 : Stmt := inClass (top 2) 0
theorem esc0 : FnScope ["self"] ["self"] (defScope es0) := ⟨rfl, rfl, rfl, by decide +kernel, rfl, by decide +kernel, by decide +kernel⟩
abbrev es1 : Stmt := inClass (top 3) 0
theorem esc1 : FnScope ["self"] ["self"] (defScope es1) := ⟨rfl, rfl, rfl, by decide +kernel, rfl, by decide +kernel, by decide +kernel⟩
abbrev es2 : Stmt := inClass (top 4) 0
theorem esc2 : FnScope ["self"] ["self"] (defScope es2) := ⟨rfl, rfl, rfl, by decide +kernel, rfl, by decide +kernel, by decide +kernel⟩
abbrev es3 : Stmt := inClass (top 5) 0
theorem esc3 : FnScope ["self"] ["self"] (defScope es3) := ⟨rfl, rfl, rfl, by decide +kernel, rfl, by decide +kernel, by decide +kernel⟩
structure Txt (K : PySem.W.Frag) (mg : Str → Option Value) (a0 a1 a2 a3 a4 a5 a6 a7 a8 a9 a10 a11 a12 a13 a14 a15 a16 a17 a18 a19 a20 a21 a22 a23 C0 E0 E1 E2 E3 ea0 ea1 ea2 ea3 : Addr) (d0 d1 d2 d3 d4 d5 d6 d7 d8 d9 d10 d11 d12 d13 d14 d15 d16 d17 d18 d19 d20 d21 d22 d23 ed0 ed1 ed2 ed3 : FuncData) : Prop where
  F0 : Fun K "is_whole" "is_whole" s0 a0 d0
  m0 : mg "is_whole" = some (.ref a0)
  k0 : PySem.W.keepIn K (.ref a0) = true
  b0 : Binds K d0 ["thing"] []
  F1 : Fun K "look_at_room" "look_at_room" s1 a1 d1
  m1 : mg "look_at_room" = some (.ref a1)
  k1 : PySem.W.keepIn K (.ref a1) = true
  b1 : Binds K d1 ["thing"] []
  F2 : Fun K "__init__" "Joiner.__init__" s2 a2 d2
  mk0 : Mk K C0 a2
  k2 : PySem.W.keepIn K (.ref a2) = true
  b2 : Binds K d2 ["self", "room"] []
  F3 : Fun K "limit" "Joiner.limit" s3 a3 d3
  me3 : Meth K C0 "limit" a3
  k3 : PySem.W.keepIn K (.ref a3) = true
  b3 : Binds K d3 ["self"] []
  F4 : Fun K "is_new" "Joiner.is_new" s4 a4 d4
  me4 : Meth K C0 "is_new" a4
  k4 : PySem.W.keepIn K (.ref a4) = true
  b4 : Binds K d4 ["self", "number"] []
  F5 : Fun K "is_from" "is_from" s5 a5 d5
  m5 : mg "is_from" = some (.ref a5)
  k5 : PySem.W.keepIn K (.ref a5) = true
  b5 : Binds K d5 ["thing", "least"] []
  F6 : Fun K "is_signs" "is_signs" s6 a6 d6
  m6 : mg "is_signs" = some (.ref a6)
  k6 : PySem.W.keepIn K (.ref a6) = true
  b6 : Binds K d6 ["thing"] []
  F7 : Fun K "is_piece" "is_piece" s7 a7 d7
  m7 : mg "is_piece" = some (.ref a7)
  k7 : PySem.W.keepIn K (.ref a7) = true
  b7 : Binds K d7 ["thing"] []
  F8 : Fun K "take" "Joiner.take" s8 a8 d8
  me8 : Meth K C0 "take" a8
  k8 : PySem.W.keepIn K (.ref a8) = true
  b8 : Binds K d8 ["self", "piece"] []
  F9 : Fun K "joined" "joined" s9 a9 d9
  m9 : mg "joined" = some (.ref a9)
  k9 : PySem.W.keepIn K (.ref a9) = true
  b9 : Binds K d9 ["pieces"] []
  F10 : Fun K "beyond" "Joiner.beyond" s10 a10 d10
  me10 : Meth K C0 "beyond" a10
  k10 : PySem.W.keepIn K (.ref a10) = true
  b10 : Binds K d10 ["self"] []
  F11 : Fun K "ended" "Joiner.ended" s11 a11 d11
  me11 : Meth K C0 "ended" a11
  k11 : PySem.W.keepIn K (.ref a11) = true
  b11 : Binds K d11 ["self"] []
  F12 : Fun K "held" "Joiner.held" s12 a12 d12
  me12 : Meth K C0 "held" a12
  k12 : PySem.W.keepIn K (.ref a12) = true
  b12 : Binds K d12 ["self"] []
  F13 : Fun K "is_over" "Joiner.is_over" s13 a13 d13
  me13 : Meth K C0 "is_over" a13
  k13 : PySem.W.keepIn K (.ref a13) = true
  b13 : Binds K d13 ["self"] []
  F14 : Fun K "known" "Joiner.known" s14 a14 d14
  me14 : Meth K C0 "known" a14
  k14 : PySem.W.keepIn K (.ref a14) = true
  b14 : Binds K d14 ["self"] []
  F15 : Fun K "ready" "Joiner.ready" s15 a15 d15
  me15 : Meth K C0 "ready" a15
  k15 : PySem.W.keepIn K (.ref a15) = true
  b15 : Binds K d15 ["self"] []
  F16 : Fun K "_law_box_told" "_law_box_told" s16 a16 d16
  m16 : mg "_law_box_told" = some (.ref a16)
  k16 : PySem.W.keepIn K (.ref a16) = true
  b16 : Binds K d16 ["_law_box"] []
  F17 : Fun K "_law_pool" "_law_pool" s17 a17 d17
  m17 : mg "_law_pool" = some (.ref a17)
  k17 : PySem.W.keepIn K (.ref a17) = true
  b17 : Binds K d17 ["_law_script", "_law_k"] []
  F18 : Fun K "end" "Joiner.end" s18 a18 d18
  me18 : Meth K C0 "end" a18
  k18 : PySem.W.keepIn K (.ref a18) = true
  b18 : Binds K d18 ["self", "at"] []
  F19 : Fun K "read" "Joiner.read" s19 a19 d19
  me19 : Meth K C0 "read" a19
  k19 : PySem.W.keepIn K (.ref a19) = true
  b19 : Binds K d19 ["self", "many"] []
  F20 : Fun K "_law_refused" "_law_refused" s20 a20 d20
  m20 : mg "_law_refused" = some (.ref a20)
  k20 : PySem.W.keepIn K (.ref a20) = true
  b20 : Binds K d20 ["_law_box", "_law_door", "_law_item"] []
  F21 : Fun K "_law_take" "_law_take" s21 a21 d21
  m21 : mg "_law_take" = some (.ref a21)
  k21 : PySem.W.keepIn K (.ref a21) = true
  b21 : Binds K d21 ["_law_pool_here", "_law_many"] []
  F22 : Fun K "_law_signs" "_law_signs" s22 a22 d22
  m22 : mg "_law_signs" = some (.ref a22)
  k22 : PySem.W.keepIn K (.ref a22) = true
  b22 : Binds K d22 ["_law_pool_here", "_law_many"] []
  F23 : Fun K "law" "law" s23 a23 d23
  m23 : mg "law" = some (.ref a23)
  k23 : PySem.W.keepIn K (.ref a23) = true
  b23 : Binds K d23 ["_law_script"] []
  cl0 : Cls K C0
  mc0 : mg "Joiner" = some (.ref C0)
  na0_0 : NoAttr K C0 "own_room"
  na0_1 : NoAttr K C0 "own_signs"
  na0_2 : NoAttr K C0 "many_read"
  na0_3 : NoAttr K C0 "many_known"
  na0_4 : NoAttr K C0 "own_end"
  em0 : mg "NoRoom" = some (.ref E0)
  oe0 : OexC K E0
  oi0 : PySem.W.findIn K (.ref E0) "__init__" = some (some (.ref ea0))
  ot0 : PySem.W.typeIn K (.ref ea0) = some (.type "function")
  oF0 : Fun K "__init__" "NoRoom.__init__" es0 ea0 ed0
  ob0 : Binds K ed0 ["self"] []
  ix0 : IsX (RK K C0 E0 E1 E2 E3) K (.ref E0) km0
  em1 : mg "NoPiece" = some (.ref E1)
  oe1 : OexC K E1
  oi1 : PySem.W.findIn K (.ref E1) "__init__" = some (some (.ref ea1))
  ot1 : PySem.W.typeIn K (.ref ea1) = some (.type "function")
  oF1 : Fun K "__init__" "NoPiece.__init__" es1 ea1 ed1
  ob1 : Binds K ed1 ["self"] []
  ix1 : IsX (RK K C0 E0 E1 E2 E3) K (.ref E1) km1
  em2 : mg "NoEnd" = some (.ref E2)
  oe2 : OexC K E2
  oi2 : PySem.W.findIn K (.ref E2) "__init__" = some (some (.ref ea2))
  ot2 : PySem.W.typeIn K (.ref ea2) = some (.type "function")
  oF2 : Fun K "__init__" "NoEnd.__init__" es2 ea2 ed2
  ob2 : Binds K ed2 ["self"] []
  ix2 : IsX (RK K C0 E0 E1 E2 E3) K (.ref E2) km2
  em3 : mg "NoNumber" = some (.ref E3)
  oe3 : OexC K E3
  oi3 : PySem.W.findIn K (.ref E3) "__init__" = some (some (.ref ea3))
  ot3 : PySem.W.typeIn K (.ref ea3) = some (.type "function")
  oF3 : Fun K "__init__" "NoNumber.__init__" es3 ea3 ed3
  ob3 : Binds K ed3 ["self"] []
  ix3 : IsX (RK K C0 E0 E1 E2 E3) K (.ref E3) km3
  xct0132 : ∀ c b, ct0132 c = some b → PySem.W.exmAny K (.ref ((RK K C0 E0 E1 E2 E3).exA c)) [.ref E0, .ref E1, .ref E3, .ref E2] = some b
  ib_ValueError : IsX (RK K C0 E0 E1 E2 E3) K (.type "ValueError") kb_ValueError
  vV : PySem.W.findCls K (.type "ValueError") (.type "type") "__init__" = some (.val (.builtin "ValueError.__init__"))
  z_ValueError : mg "ValueError" = none
  z_abs : mg "abs" = none
  z_all : mg "all" = none
  z_any : mg "any" = none
  z_bool : mg "bool" = none
  z_enumerate : mg "enumerate" = none
  z_int : mg "int" = none
  z_isinstance : mg "isinstance" = none
  z_len : mg "len" = none
  z_max : mg "max" = none
  z_min : mg "min" = none
  z_range : mg "range" = none
  z_repr : mg "repr" = none
  z_sorted : mg "sorted" = none
  z_str : mg "str" = none
  z_tuple : mg "tuple" = none
  g_LETTERS : ∃ t, mg "LETTERS" = some (.str ⟨List.toArray [97, 98, 99, 100, 101, 102, 103, 104, 105, 106, 107, 108, 109, 110, 111, 112, 113, 114, 115, 116, 117, 118, 119, 120, 121, 122]⟩ t)
  g_MOST_ROOM : ∃ t, mg "MOST_ROOM" = some (.int 400 t)
section
variable {P : Program} {w : World} {K : PySem.W.Frag} {mg : Str → Option Value} {base : Heap} {a0 a1 a2 a3 a4 a5 a6 a7 a8 a9 a10 a11 a12 a13 a14 a15 a16 a17 a18 a19 a20 a21 a22 a23 C0 E0 E1 E2 E3 ea0 ea1 ea2 ea3 : Addr} {d0 d1 d2 d3 d4 d5 d6 d7 d8 d9 d10 d11 d12 d13 d14 d15 d16 d17 d18 d19 d20 d21 d22 d23 ed0 ed1 ed2 ed3 : FuncData}
theorem oke0 (T : Txt K mg a0 a1 a2 a3 a4 a5 a6 a7 a8 a9 a10 a11 a12 a13 a14 a15 a16 a17 a18 a19 a20 a21 a22 a23 C0 E0 E1 E2 E3 ea0 ea1 ea2 ea3 d0 d1 d2 d3 d4 d5 d6 d7 d8 d9 d10 d11 d12 d13 d14 d15 d16 d17 d18 d19 d20 d21 d22 d23 ed0 ed1 ed2 ed3) : Mi.FnOk P w K mg base (L2.CX P w) (0 + 1) ea0 ed0 ["self"] (spI E0) := by
  refine fn_body T.oF0 esc0 (fun vs H Q E h => by obtain ⟨a, rfl, _⟩ := h; rfl) fun cdv A outer s H vs Q E hr h => ?_
  exact ⟨_, pss_one (ps_expr (pe_veinit rfl T.z_ValueError T.vV (pa_cons (pe_var (i := 0) rfl (.inl rfl)) (pa_cons pe_str pa_nil)))), exc_wish T.oe0 h⟩
theorem oke1 (T : Txt K mg a0 a1 a2 a3 a4 a5 a6 a7 a8 a9 a10 a11 a12 a13 a14 a15 a16 a17 a18 a19 a20 a21 a22 a23 C0 E0 E1 E2 E3 ea0 ea1 ea2 ea3 d0 d1 d2 d3 d4 d5 d6 d7 d8 d9 d10 d11 d12 d13 d14 d15 d16 d17 d18 d19 d20 d21 d22 d23 ed0 ed1 ed2 ed3) : Mi.FnOk P w K mg base (L2.CX P w) (0 + 1) ea1 ed1 ["self"] (spI E1) := by
  refine fn_body T.oF1 esc1 (fun vs H Q E h => by obtain ⟨a, rfl, _⟩ := h; rfl) fun cdv A outer s H vs Q E hr h => ?_
  exact ⟨_, pss_one (ps_expr (pe_veinit rfl T.z_ValueError T.vV (pa_cons (pe_var (i := 0) rfl (.inl rfl)) (pa_cons pe_str pa_nil)))), exc_wish T.oe1 h⟩
theorem oke2 (T : Txt K mg a0 a1 a2 a3 a4 a5 a6 a7 a8 a9 a10 a11 a12 a13 a14 a15 a16 a17 a18 a19 a20 a21 a22 a23 C0 E0 E1 E2 E3 ea0 ea1 ea2 ea3 d0 d1 d2 d3 d4 d5 d6 d7 d8 d9 d10 d11 d12 d13 d14 d15 d16 d17 d18 d19 d20 d21 d22 d23 ed0 ed1 ed2 ed3) : Mi.FnOk P w K mg base (L2.CX P w) (0 + 1) ea2 ed2 ["self"] (spI E2) := by
  refine fn_body T.oF2 esc2 (fun vs H Q E h => by obtain ⟨a, rfl, _⟩ := h; rfl) fun cdv A outer s H vs Q E hr h => ?_
  exact ⟨_, pss_one (ps_expr (pe_veinit rfl T.z_ValueError T.vV (pa_cons (pe_var (i := 0) rfl (.inl rfl)) (pa_cons pe_str pa_nil)))), exc_wish T.oe2 h⟩
theorem oke3 (T : Txt K mg a0 a1 a2 a3 a4 a5 a6 a7 a8 a9 a10 a11 a12 a13 a14 a15 a16 a17 a18 a19 a20 a21 a22 a23 C0 E0 E1 E2 E3 ea0 ea1 ea2 ea3 d0 d1 d2 d3 d4 d5 d6 d7 d8 d9 d10 d11 d12 d13 d14 d15 d16 d17 d18 d19 d20 d21 d22 d23 ed0 ed1 ed2 ed3) : Mi.FnOk P w K mg base (L2.CX P w) (0 + 1) ea3 ed3 ["self"] (spI E3) := by
  refine fn_body T.oF3 esc3 (fun vs H Q E h => by obtain ⟨a, rfl, _⟩ := h; rfl) fun cdv A outer s H vs Q E hr h => ?_
  exact ⟨_, pss_one (ps_expr (pe_veinit rfl T.z_ValueError T.vV (pa_cons (pe_var (i := 0) rfl (.inl rfl)) (pa_cons pe_str pa_nil)))), exc_wish T.oe3 h⟩
theorem ok0 (T : Txt K mg a0 a1 a2 a3 a4 a5 a6 a7 a8 a9 a10 a11 a12 a13 a14 a15 a16 a17 a18 a19 a20 a21 a22 a23 C0 E0 E1 E2 E3 ea0 ea1 ea2 ea3 d0 d1 d2 d3 d4 d5 d6 d7 d8 d9 d10 d11 d12 d13 d14 d15 d16 d17 d18 d19 d20 d21 d22 d23 ed0 ed1 ed2 ed3) : Mi.FnOk P w K mg base (L2.CX P w) 1 a0 d0 ["thing"] (spF (RK K C0 E0 E1 E2 E3) 1 r0) := by
  refine fn_def T.F0 sc0 rfl (by decide) fun cdv A outer s H E hr tk hp => ?_
  have hN := sc0.nd
  exact (jb_one (js_ret (je_and (je_isi (se_var 0) T.z_isinstance T.z_int boot_int') (je_one (je_not (je_isi (se_var 0) T.z_isinstance T.z_bool boot_bool'))))))
theorem ok1 (T : Txt K mg a0 a1 a2 a3 a4 a5 a6 a7 a8 a9 a10 a11 a12 a13 a14 a15 a16 a17 a18 a19 a20 a21 a22 a23 C0 E0 E1 E2 E3 ea0 ea1 ea2 ea3 d0 d1 d2 d3 d4 d5 d6 d7 d8 d9 d10 d11 d12 d13 d14 d15 d16 d17 d18 d19 d20 d21 d22 d23 ed0 ed1 ed2 ed3) : Mi.FnOk P w K mg base (L2.CX P w) 3 a1 d1 ["thing"] (spF (RK K C0 E0 E1 E2 E3) 1 r1) := by
  have G0 := ok0 (P := P) (w := w) (base := base) T
  refine fn_def T.F1 sc1 rfl (by decide) fun cdv A outer s H E hr tk hp => ?_
  have hN := sc1.nd
  exact (jb_one (js_if (jt_w (jw_or (jt_not (jt_plain (je_call G0 tk (hr.mono (by decide)) T.m0 T.k0 T.b0 (jas_cons (se_var 0) jas_nil)))) (jw_or1 (jt_not (jt_chain op_le op_le (fun _ => pr_le) (fun _ => pr_le) se_int (se_var 0) (je_gint T.g_MOST_ROOM)))))) (jb_one (js_raise0 0 rfl T.oe0 T.oi0 T.ot0 (oke0 T) tk (hr.mono (by decide)) T.ob0 T.em0)) jb_nil))
theorem ok2 (T : Txt K mg a0 a1 a2 a3 a4 a5 a6 a7 a8 a9 a10 a11 a12 a13 a14 a15 a16 a17 a18 a19 a20 a21 a22 a23 C0 E0 E1 E2 E3 ea0 ea1 ea2 ea3 d0 d1 d2 d3 d4 d5 d6 d7 d8 d9 d10 d11 d12 d13 d14 d15 d16 d17 d18 d19 d20 d21 d22 d23 ed0 ed1 ed2 ed3) : Mi.FnOk P w K mg base (L2.CX P w) 4 a2 d2 ["self", "room"] (spF (RK K C0 E0 E1 E2 E3) 2 r2) := by
  have G1 := ok1 (P := P) (w := w) (base := base) T
  refine fn_def T.F2 sc2 rfl (by decide) fun cdv A outer s H E hr tk hp => ?_
  have hN := sc2.nd
  exact (jb_cons (js_expr (je_call G1 tk (hr.mono (by decide)) T.m1 T.k1 T.b1 (jas_cons (se_var 1) jas_nil))) (jb_cons (js_fld 0 0 T.cl0 T.na0_0 (se_var 1) (se_var 0) (nd := nd0) (hl := hl0)) (jb_cons (js_fld 0 1 T.cl0 T.na0_1 je_dict0 (se_var 0) (nd := nd0) (hl := hl0)) (jb_cons (js_fld 0 2 T.cl0 T.na0_2 se_int (se_var 0) (nd := nd0) (hl := hl0)) (jb_cons (js_fld 0 3 T.cl0 T.na0_3 se_int (se_var 0) (nd := nd0) (hl := hl0)) (jb_one (js_fld 0 4 T.cl0 T.na0_4 se_non (se_var 0) (nd := nd0) (hl := hl0))))))))
theorem ok3 (T : Txt K mg a0 a1 a2 a3 a4 a5 a6 a7 a8 a9 a10 a11 a12 a13 a14 a15 a16 a17 a18 a19 a20 a21 a22 a23 C0 E0 E1 E2 E3 ea0 ea1 ea2 ea3 d0 d1 d2 d3 d4 d5 d6 d7 d8 d9 d10 d11 d12 d13 d14 d15 d16 d17 d18 d19 d20 d21 d22 d23 ed0 ed1 ed2 ed3) : Mi.FnOk P w K mg base (L2.CX P w) 1 a3 d3 ["self"] (spF (RK K C0 E0 E1 E2 E3) 1 r3) := by
  refine fn_def T.F3 sc3 rfl (by decide) fun cdv A outer s H E hr tk hp => ?_
  have hN := sc3.nd
  exact (jb_one (js_ret (je_add (je_fld 0 2 T.cl0 T.na0_2 (se_var 0)) (je_fld 0 0 T.cl0 T.na0_0 (se_var 0)))))
theorem ok4 (T : Txt K mg a0 a1 a2 a3 a4 a5 a6 a7 a8 a9 a10 a11 a12 a13 a14 a15 a16 a17 a18 a19 a20 a21 a22 a23 C0 E0 E1 E2 E3 ea0 ea1 ea2 ea3 d0 d1 d2 d3 d4 d5 d6 d7 d8 d9 d10 d11 d12 d13 d14 d15 d16 d17 d18 d19 d20 d21 d22 d23 ed0 ed1 ed2 ed3) : Mi.FnOk P w K mg base (L2.CX P w) 2 a4 d4 ["self", "number"] (spF (RK K C0 E0 E1 E2 E3) 2 r4) := by
  have G3 := ok3 (P := P) (w := w) (base := base) T
  refine fn_def T.F4 sc4 rfl (by decide) fun cdv A outer s H E hr tk hp => ?_
  have hN := sc4.nd
  exact (jb_cons (js_if (jt_w (jw_or (jt_lt (se_var 1) (je_fld 0 3 T.cl0 T.na0_3 (se_var 0))) (jw_or (jt_inA hr (se_var 1) (je_fld 0 1 T.cl0 T.na0_1 (se_var 0))) (jw_or1 (jt_ge (se_var 1) (je_meth0 0 T.cl0 T.me3 G3 tk (hr.mono (by decide)) T.b3 (se_var 0) (hnm := nm3))))))) (jb_one (js_ret se_bl)) jb_nil) (jb_one (js_ret (je_or (je_is (je_fld 0 4 T.cl0 T.na0_4 (se_var 0)) se_non) (je_one (je_lt (se_var 1) (je_fld 0 4 T.cl0 T.na0_4 (se_var 0))))))))
theorem ok5 (T : Txt K mg a0 a1 a2 a3 a4 a5 a6 a7 a8 a9 a10 a11 a12 a13 a14 a15 a16 a17 a18 a19 a20 a21 a22 a23 C0 E0 E1 E2 E3 ea0 ea1 ea2 ea3 d0 d1 d2 d3 d4 d5 d6 d7 d8 d9 d10 d11 d12 d13 d14 d15 d16 d17 d18 d19 d20 d21 d22 d23 ed0 ed1 ed2 ed3) : Mi.FnOk P w K mg base (L2.CX P w) 2 a5 d5 ["thing", "least"] (spF (RK K C0 E0 E1 E2 E3) 2 r5) := by
  have G0 := ok0 (P := P) (w := w) (base := base) T
  refine fn_def T.F5 sc5 rfl (by decide) fun cdv A outer s H E hr tk hp => ?_
  have hN := sc5.nd
  exact (jb_one (js_ret (je_and (je_call G0 tk (hr.mono (by decide)) T.m0 T.k0 T.b0 (jas_cons (se_var 0) jas_nil)) (je_one (je_ge (se_var 0) (se_var 1))))))
theorem ok6 (T : Txt K mg a0 a1 a2 a3 a4 a5 a6 a7 a8 a9 a10 a11 a12 a13 a14 a15 a16 a17 a18 a19 a20 a21 a22 a23 C0 E0 E1 E2 E3 ea0 ea1 ea2 ea3 d0 d1 d2 d3 d4 d5 d6 d7 d8 d9 d10 d11 d12 d13 d14 d15 d16 d17 d18 d19 d20 d21 d22 d23 ed0 ed1 ed2 ed3) : Mi.FnOk P w K mg base (L2.CX P w) 1 a6 d6 ["thing"] (spF (RK K C0 E0 E1 E2 E3) 1 r6) := by
  refine fn_def T.F6 sc6 rfl (by decide) fun cdv A outer s H E hr tk hp => ?_
  have hN := sc6.nd
  exact (jb_one (js_ret (je_and (je_isi (se_var 0) T.z_isinstance T.z_str boot_str') (je_one (je_all (ja_cons (je_lc (own := [("sign", 1)]) rfl hN (ji_any (se_var 0)) (blkOk_by (by rfl)) (fun _ _ _ _ _ => (jg_name (i := 1) hN)) (fun _ _ _ _ _ => jts_nil) (fun _ _ _ _ _ => (je_inA hr (se_var 1) (je_gstr T.g_LETTERS)))) ja_nil) rfl rfl T.z_all)))))
theorem ok7 (T : Txt K mg a0 a1 a2 a3 a4 a5 a6 a7 a8 a9 a10 a11 a12 a13 a14 a15 a16 a17 a18 a19 a20 a21 a22 a23 C0 E0 E1 E2 E3 ea0 ea1 ea2 ea3 d0 d1 d2 d3 d4 d5 d6 d7 d8 d9 d10 d11 d12 d13 d14 d15 d16 d17 d18 d19 d20 d21 d22 d23 ed0 ed1 ed2 ed3) : Mi.FnOk P w K mg base (L2.CX P w) 3 a7 d7 ["thing"] (spF (RK K C0 E0 E1 E2 E3) 1 r7) := by
  have G5 := ok5 (P := P) (w := w) (base := base) T
  have G6 := ok6 (P := P) (w := w) (base := base) T
  refine fn_def T.F7 sc7 rfl (by decide) fun cdv A outer s H E hr tk hp => ?_
  have hN := sc7.nd
  exact (jb_cons (js_if (jt_w (jw_or (jt_not (jt_plain (je_isi (se_var 0) T.z_isinstance T.z_tuple boot_tuple'))) (jw_or1 (jt_ne hr (je_len (ja_cons (se_var 0) ja_nil) rfl rfl T.z_len) se_int)))) (jb_one (js_ret se_bl)) jb_nil) (jb_one (js_ret (je_and (je_call G5 tk (hr.mono (by decide)) T.m5 T.k5 T.b5 (jas_cons (je_ixA hr (se_var 0) se_int) (jas_cons se_int jas_nil))) (je_and (je_call G6 tk (hr.mono (by decide)) T.m6 T.k6 T.b6 (jas_cons (je_ixA hr (se_var 0) se_int) jas_nil)) (je_one (je_ne hr (je_ixA hr (se_var 0) se_int) se_str)))))))
theorem ok8 (T : Txt K mg a0 a1 a2 a3 a4 a5 a6 a7 a8 a9 a10 a11 a12 a13 a14 a15 a16 a17 a18 a19 a20 a21 a22 a23 C0 E0 E1 E2 E3 ea0 ea1 ea2 ea3 d0 d1 d2 d3 d4 d5 d6 d7 d8 d9 d10 d11 d12 d13 d14 d15 d16 d17 d18 d19 d20 d21 d22 d23 ed0 ed1 ed2 ed3) : Mi.FnOk P w K mg base (L2.CX P w) 4 a8 d8 ["self", "piece"] (spF (RK K C0 E0 E1 E2 E3) 2 r8) := by
  have G4 := ok4 (P := P) (w := w) (base := base) T
  have G7 := ok7 (P := P) (w := w) (base := base) T
  refine fn_def T.F8 sc8 rfl (by decide) fun cdv A outer s H E hr tk hp => ?_
  have hN := sc8.nd
  exact (jb_cons (js_if (jt_not (jt_plain (je_call G7 tk (hr.mono (by decide)) T.m7 T.k7 T.b7 (jas_cons (se_var 1) jas_nil)))) (jb_one (js_raise0 1 rfl T.oe1 T.oi1 T.ot1 (oke1 T) tk (hr.mono (by decide)) T.ob1 T.em1)) jb_nil) (jb_cons (js_asg (se_var 1) (jg_tup rfl (jgs_cons (jg_name (i := 2) hN) (jgs_cons (jg_name (i := 3) hN) jgs_nil)))) (jb_cons (js_setDc (i := 4) (own := [("place", 5), ("sign", 6)]) rfl hN (ji_enum T.z_enumerate (se_var 3)) (blkOk_by (by rfl)) (fun _ _ _ _ _ => (jg_tup rfl (jgs_cons (jg_name (i := 5) hN) (jgs_cons (jg_name (i := 6) hN) jgs_nil)))) (fun _ _ _ _ _ => (jts_one (jt_plain (je_meth 0 T.cl0 T.me4 G4 takes_no (hr.mono (by decide)) T.b4 (se_var 0) (jas_cons (je_add (se_var 2) (se_var 5)) jas_nil) (hnm := nm4))))) (fun _ _ _ _ _ => (je_add (se_var 2) (se_var 5))) (fun _ _ _ _ _ => (se_var 6))) (jb_cons (js_expr (je_dupdate (je_fld 0 1 T.cl0 T.na0_1 (se_var 0)) (jas_cons (se_var 4) jas_nil))) (jb_cons (js_while hp (jt_inA hr (je_fld 0 3 T.cl0 T.na0_3 (se_var 0)) (je_fld 0 1 T.cl0 T.na0_1 (se_var 0))) (fb := b8f0) (jb_one (js_augfld 0 3 T.cl0 T.na0_3 op_iadd pr_iadd (se_var 0) se_int (nd := nd0) (hl := hl0)))) (jb_one (js_ret (je_lenA (ja_cons (se_var 4) ja_nil) T.z_len))))))))
theorem ok9 (T : Txt K mg a0 a1 a2 a3 a4 a5 a6 a7 a8 a9 a10 a11 a12 a13 a14 a15 a16 a17 a18 a19 a20 a21 a22 a23 C0 E0 E1 E2 E3 ea0 ea1 ea2 ea3 d0 d1 d2 d3 d4 d5 d6 d7 d8 d9 d10 d11 d12 d13 d14 d15 d16 d17 d18 d19 d20 d21 d22 d23 ed0 ed1 ed2 ed3) : Mi.FnOk P w K mg base (L2.CX P w) 1 a9 d9 ["pieces"] (spF (RK K C0 E0 E1 E2 E3) 1 r9) := by
  refine fn_def T.F9 sc9 rfl (by decide) fun cdv A outer s H E hr tk hp => ?_
  have hN := sc9.nd
  exact (jb_cons (js_set (i := 1) hN je_dict0) (jb_cons (js_for hp rfl (ji_any (se_var 0)) (jg_tup rfl (jgs_cons (jg_name (i := 2) hN) (jgs_cons (jg_name (i := 3) hN) jgs_nil))) (fb := b9f1) (jb_one (js_for hp rfl (ji_enum T.z_enumerate (se_var 3)) (jg_tup rfl (jgs_cons (jg_name (i := 4) hN) (jgs_cons (jg_name (i := 5) hN) jgs_nil))) (fb := b9f0) (jb_one (js_expr (je_setd (se_var 1) (je_add (se_var 2) (se_var 4)) (se_var 5))))))) (jb_cons (js_set (i := 6) hN (je_lst jas_nil)) (jb_cons (js_for hp rfl (ji_any (je_sorted (ja_cons (se_var 1) ja_nil) rfl rfl T.z_sorted)) (jg_name (i := 7) hN) (fb := b9f2) (jb_one (js_if (jt_inA hr (je_sub (se_var 7) se_int) (se_var 1)) (jb_cons (js_asg (je_pop0 (se_var 6)) (jg_tup rfl (jgs_cons (jg_name (i := 2) hN) (jgs_cons (jg_name (i := 3) hN) jgs_nil)))) (jb_one (js_expr (je_append (se_var 6) (jas_cons (je_tup (jas_cons (se_var 2) (jas_cons (je_add (se_var 3) (je_ixA hr (se_var 1) (se_var 7))) jas_nil))) jas_nil))))) (jb_one (js_expr (je_append (se_var 6) (jas_cons (je_tup (jas_cons (se_var 7) (jas_cons (je_ixA hr (se_var 1) (se_var 7)) jas_nil))) jas_nil))))))) (jb_one (js_ret (se_var 6)))))))
theorem ok10 (T : Txt K mg a0 a1 a2 a3 a4 a5 a6 a7 a8 a9 a10 a11 a12 a13 a14 a15 a16 a17 a18 a19 a20 a21 a22 a23 C0 E0 E1 E2 E3 ea0 ea1 ea2 ea3 d0 d1 d2 d3 d4 d5 d6 d7 d8 d9 d10 d11 d12 d13 d14 d15 d16 d17 d18 d19 d20 d21 d22 d23 ed0 ed1 ed2 ed3) : Mi.FnOk P w K mg base (L2.CX P w) 2 a10 d10 ["self"] (spF (RK K C0 E0 E1 E2 E3) 1 r10) := by
  have G9 := ok9 (P := P) (w := w) (base := base) T
  refine fn_def T.F10 sc10 rfl (by decide) fun cdv A outer s H E hr tk hp => ?_
  have hN := sc10.nd
  exact (jb_one (js_ret (je_call G9 tk (hr.mono (by decide)) T.m9 T.k9 T.b9 (jas_cons (je_lk (pk := (mFld 0 1 (mVar 0))) (je_lc (own := [("number", 1), ("sign", 2)]) rfl hN (ji_items (je_fld 0 1 T.cl0 T.na0_1 (se_var 0))) (blkOk_by (by rfl)) (fun _ _ _ _ _ => (jg_tup rfl (jgs_cons (jg_name (i := 1) hN) (jgs_cons (jg_name (i := 2) hN) jgs_nil)))) (fun _ _ _ _ _ => (jts_one (jt_gt (se_var 1) (je_fld 0 3 T.cl0 T.na0_3 (se_var 0))))) (fun _ _ _ _ _ => (je_tup (jas_cons (se_var 1) (jas_cons (se_var 2) jas_nil)))))) jas_nil))))
theorem ok11 (T : Txt K mg a0 a1 a2 a3 a4 a5 a6 a7 a8 a9 a10 a11 a12 a13 a14 a15 a16 a17 a18 a19 a20 a21 a22 a23 C0 E0 E1 E2 E3 ea0 ea1 ea2 ea3 d0 d1 d2 d3 d4 d5 d6 d7 d8 d9 d10 d11 d12 d13 d14 d15 d16 d17 d18 d19 d20 d21 d22 d23 ed0 ed1 ed2 ed3) : Mi.FnOk P w K mg base (L2.CX P w) 1 a11 d11 ["self"] (spF (RK K C0 E0 E1 E2 E3) 1 r11) := by
  refine fn_def T.F11 sc11 rfl (by decide) fun cdv A outer s H E hr tk hp => ?_
  have hN := sc11.nd
  exact (jb_one (js_ret (je_fld 0 4 T.cl0 T.na0_4 (se_var 0))))
theorem ok12 (T : Txt K mg a0 a1 a2 a3 a4 a5 a6 a7 a8 a9 a10 a11 a12 a13 a14 a15 a16 a17 a18 a19 a20 a21 a22 a23 C0 E0 E1 E2 E3 ea0 ea1 ea2 ea3 d0 d1 d2 d3 d4 d5 d6 d7 d8 d9 d10 d11 d12 d13 d14 d15 d16 d17 d18 d19 d20 d21 d22 d23 ed0 ed1 ed2 ed3) : Mi.FnOk P w K mg base (L2.CX P w) 1 a12 d12 ["self"] (spF (RK K C0 E0 E1 E2 E3) 1 r12) := by
  refine fn_def T.F12 sc12 rfl (by decide) fun cdv A outer s H E hr tk hp => ?_
  have hN := sc12.nd
  exact (jb_one (js_ret (je_lenA (ja_cons (je_fld 0 1 T.cl0 T.na0_1 (se_var 0)) ja_nil) T.z_len)))
theorem ok13 (T : Txt K mg a0 a1 a2 a3 a4 a5 a6 a7 a8 a9 a10 a11 a12 a13 a14 a15 a16 a17 a18 a19 a20 a21 a22 a23 C0 E0 E1 E2 E3 ea0 ea1 ea2 ea3 d0 d1 d2 d3 d4 d5 d6 d7 d8 d9 d10 d11 d12 d13 d14 d15 d16 d17 d18 d19 d20 d21 d22 d23 ed0 ed1 ed2 ed3) : Mi.FnOk P w K mg base (L2.CX P w) 1 a13 d13 ["self"] (spF (RK K C0 E0 E1 E2 E3) 1 r13) := by
  refine fn_def T.F13 sc13 rfl (by decide) fun cdv A outer s H E hr tk hp => ?_
  have hN := sc13.nd
  exact (jb_one (js_ret (je_eq hr (je_fld 0 4 T.cl0 T.na0_4 (se_var 0)) (je_fld 0 3 T.cl0 T.na0_3 (se_var 0)))))
theorem ok14 (T : Txt K mg a0 a1 a2 a3 a4 a5 a6 a7 a8 a9 a10 a11 a12 a13 a14 a15 a16 a17 a18 a19 a20 a21 a22 a23 C0 E0 E1 E2 E3 ea0 ea1 ea2 ea3 d0 d1 d2 d3 d4 d5 d6 d7 d8 d9 d10 d11 d12 d13 d14 d15 d16 d17 d18 d19 d20 d21 d22 d23 ed0 ed1 ed2 ed3) : Mi.FnOk P w K mg base (L2.CX P w) 1 a14 d14 ["self"] (spF (RK K C0 E0 E1 E2 E3) 1 r14) := by
  refine fn_def T.F14 sc14 rfl (by decide) fun cdv A outer s H E hr tk hp => ?_
  have hN := sc14.nd
  exact (jb_one (js_ret (je_fld 0 3 T.cl0 T.na0_3 (se_var 0))))
theorem ok15 (T : Txt K mg a0 a1 a2 a3 a4 a5 a6 a7 a8 a9 a10 a11 a12 a13 a14 a15 a16 a17 a18 a19 a20 a21 a22 a23 C0 E0 E1 E2 E3 ea0 ea1 ea2 ea3 d0 d1 d2 d3 d4 d5 d6 d7 d8 d9 d10 d11 d12 d13 d14 d15 d16 d17 d18 d19 d20 d21 d22 d23 ed0 ed1 ed2 ed3) : Mi.FnOk P w K mg base (L2.CX P w) 1 a15 d15 ["self"] (spF (RK K C0 E0 E1 E2 E3) 1 r15) := by
  refine fn_def T.F15 sc15 rfl (by decide) fun cdv A outer s H E hr tk hp => ?_
  have hN := sc15.nd
  exact (jb_one (js_ret (je_join se_str (ja_cons (je_lc (own := [("number", 1)]) rfl hN (ji_range2 T.z_range (ja_cons (je_fld 0 2 T.cl0 T.na0_2 (se_var 0)) (ja_cons (je_fld 0 3 T.cl0 T.na0_3 (se_var 0)) ja_nil))) (blkOk_by (by rfl)) (fun _ _ _ _ _ => (jg_name (i := 1) hN)) (fun _ _ _ _ _ => jts_nil) (fun _ _ _ _ _ => (je_ixA hr (je_fld 0 1 T.cl0 T.na0_1 (se_var 0)) (se_var 1)))) ja_nil))))
theorem ok16 (T : Txt K mg a0 a1 a2 a3 a4 a5 a6 a7 a8 a9 a10 a11 a12 a13 a14 a15 a16 a17 a18 a19 a20 a21 a22 a23 C0 E0 E1 E2 E3 ea0 ea1 ea2 ea3 d0 d1 d2 d3 d4 d5 d6 d7 d8 d9 d10 d11 d12 d13 d14 d15 d16 d17 d18 d19 d20 d21 d22 d23 ed0 ed1 ed2 ed3) : Mi.FnOk P w K mg base (L2.CX P w) 3 a16 d16 ["_law_box"] (spF (RK K C0 E0 E1 E2 E3) 1 r16) := by
  have G10 := ok10 (P := P) (w := w) (base := base) T
  have G11 := ok11 (P := P) (w := w) (base := base) T
  have G12 := ok12 (P := P) (w := w) (base := base) T
  have G13 := ok13 (P := P) (w := w) (base := base) T
  have G14 := ok14 (P := P) (w := w) (base := base) T
  have G3 := ok3 (P := P) (w := w) (base := base) T
  have G15 := ok15 (P := P) (w := w) (base := base) T
  refine fn_def T.F16 sc16 rfl (by decide) fun cdv A outer s H E hr tk hp => ?_
  have hN := sc16.nd
  exact (jb_cons (js_set (i := 1) hN (je_lst (jas_cons (je_meth0 0 T.cl0 T.me14 G14 tk (hr.mono (by decide)) T.b14 (se_var 0) (hnm := nm14)) (jas_cons (je_meth0 0 T.cl0 T.me15 G15 tk (hr.mono (by decide)) T.b15 (se_var 0) (hnm := nm15)) (jas_cons (je_meth0 0 T.cl0 T.me10 G10 tk (hr.mono (by decide)) T.b10 (se_var 0) (hnm := nm10)) (jas_cons (je_meth0 0 T.cl0 T.me12 G12 tk (hr.mono (by decide)) T.b12 (se_var 0) (hnm := nm12)) (jas_cons (je_meth0 0 T.cl0 T.me3 G3 tk (hr.mono (by decide)) T.b3 (se_var 0) (hnm := nm3)) (jas_cons (je_meth0 0 T.cl0 T.me11 G11 tk (hr.mono (by decide)) T.b11 (se_var 0) (hnm := nm11)) (jas_cons (je_meth0 0 T.cl0 T.me13 G13 tk (hr.mono (by decide)) T.b13 (se_var 0) (hnm := nm13)) jas_nil))))))))) (jb_one (js_ret (je_reprD hr (ja_cons (se_var 1) ja_nil) rfl rfl T.z_repr))))
theorem ok17 (T : Txt K mg a0 a1 a2 a3 a4 a5 a6 a7 a8 a9 a10 a11 a12 a13 a14 a15 a16 a17 a18 a19 a20 a21 a22 a23 C0 E0 E1 E2 E3 ea0 ea1 ea2 ea3 d0 d1 d2 d3 d4 d5 d6 d7 d8 d9 d10 d11 d12 d13 d14 d15 d16 d17 d18 d19 d20 d21 d22 d23 ed0 ed1 ed2 ed3) : Mi.FnOk P w K mg base (L2.CX P w) 1 a17 d17 ["_law_script", "_law_k"] (spF (RK K C0 E0 E1 E2 E3) 2 r17) := by
  refine fn_def T.F17 sc17 rfl (by decide) fun cdv A outer s H E hr tk hp => ?_
  have hN := sc17.nd
  exact (jb_cons (js_set (i := 2) hN (je_ixA hr (je_add (je_slice (se_var 0) (jo_some (se_var 1)) (jo_some (je_add (se_var 1) se_int))) (je_lst (jas_cons se_int jas_nil))) se_int)) (jb_cons (js_set (i := 3) hN (je_abs (ja_cons (se_var 2) ja_nil) rfl rfl T.z_abs)) (jb_cons (js_set (i := 4) hN (je_mod (je_mul (je_add (je_add (je_mod (se_var 3) se_int) (je_mul se_int (se_var 1))) se_int) se_int) se_int)) (jb_one (js_ret (je_lst (jas_cons (je_mul (se_var 3) (je_int (ja_cons (je_ge (se_var 3) (je_pow se_int se_int)) ja_nil) rfl rfl T.z_int)) (jas_cons (se_var 4) jas_nil))))))))
theorem ok18 (T : Txt K mg a0 a1 a2 a3 a4 a5 a6 a7 a8 a9 a10 a11 a12 a13 a14 a15 a16 a17 a18 a19 a20 a21 a22 a23 C0 E0 E1 E2 E3 ea0 ea1 ea2 ea3 d0 d1 d2 d3 d4 d5 d6 d7 d8 d9 d10 d11 d12 d13 d14 d15 d16 d17 d18 d19 d20 d21 d22 d23 ed0 ed1 ed2 ed3) : Mi.FnOk P w K mg base (L2.CX P w) 3 a18 d18 ["self", "at"] (spF (RK K C0 E0 E1 E2 E3) 2 r18) := by
  have G5 := ok5 (P := P) (w := w) (base := base) T
  refine fn_def T.F18 sc18 rfl (by decide) fun cdv A outer s H E hr tk hp => ?_
  have hN := sc18.nd
  exact (jb_cons (js_if (jt_w (jw_or (jt_not (jt_plain (je_call G5 tk (hr.mono (by decide)) T.m5 T.k5 T.b5 (jas_cons (se_var 1) (jas_cons se_int jas_nil))))) (jw_or (jt_lt (se_var 1) (je_fld 0 3 T.cl0 T.na0_3 (se_var 0))) (jw_or1 (jt_plain (je_any (ja_cons (je_lk (pk := (mFld 0 1 (mVar 0))) (je_lc (own := [("number", 2)]) rfl hN (ji_keys (je_fld 0 1 T.cl0 T.na0_1 (se_var 0))) (blkOk_by (by rfl)) (fun _ _ _ _ _ => (jg_name (i := 2) hN)) (fun _ _ _ _ _ => jts_nil) (fun _ _ _ _ _ => (je_ge (se_var 2) (se_var 1))))) ja_nil) rfl rfl T.z_any)))))) (jb_one (js_raise0 2 rfl T.oe2 T.oi2 T.ot2 (oke2 T) tk (hr.mono (by decide)) T.ob2 T.em2)) jb_nil) (jb_cons (js_if (jt_notInA hr (je_fld 0 4 T.cl0 T.na0_4 (se_var 0)) (je_tup (jas_cons se_non (jas_cons (se_var 1) jas_nil)))) (jb_one (js_raise0 2 rfl T.oe2 T.oi2 T.ot2 (oke2 T) tk (hr.mono (by decide)) T.ob2 T.em2)) jb_nil) (jb_one (js_fld 0 4 T.cl0 T.na0_4 (se_var 1) (se_var 0) (nd := nd0) (hl := hl0)))))
theorem ok19 (T : Txt K mg a0 a1 a2 a3 a4 a5 a6 a7 a8 a9 a10 a11 a12 a13 a14 a15 a16 a17 a18 a19 a20 a21 a22 a23 C0 E0 E1 E2 E3 ea0 ea1 ea2 ea3 d0 d1 d2 d3 d4 d5 d6 d7 d8 d9 d10 d11 d12 d13 d14 d15 d16 d17 d18 d19 d20 d21 d22 d23 ed0 ed1 ed2 ed3) : Mi.FnOk P w K mg base (L2.CX P w) 3 a19 d19 ["self", "many"] (spF (RK K C0 E0 E1 E2 E3) 2 r19) := by
  have G15 := ok15 (P := P) (w := w) (base := base) T
  have G5 := ok5 (P := P) (w := w) (base := base) T
  refine fn_def T.F19 sc19 rfl (by decide) fun cdv A outer s H E hr tk hp => ?_
  have hN := sc19.nd
  exact (jb_cons (js_if (jt_not (jt_plain (je_call G5 tk (hr.mono (by decide)) T.m5 T.k5 T.b5 (jas_cons (se_var 1) (jas_cons se_int jas_nil))))) (jb_one (js_raise0 3 rfl T.oe3 T.oi3 T.ot3 (oke3 T) tk (hr.mono (by decide)) T.ob3 T.em3)) jb_nil) (jb_cons (js_set (i := 2) hN (je_slice (je_meth0 0 T.cl0 T.me15 G15 tk (hr.mono (by decide)) T.b15 (se_var 0) (hnm := nm15)) jo_none (jo_some (se_var 1)))) (jb_cons (js_for hp rfl (ji_range1 T.z_range (ja_cons (je_len (ja_cons (se_var 2) ja_nil) rfl rfl T.z_len) ja_nil)) (jg_name (i := 3) hN) (fb := b19f0) (jb_one (js_expr (je_dpop (je_fld 0 1 T.cl0 T.na0_1 (se_var 0)) (je_add (je_fld 0 2 T.cl0 T.na0_2 (se_var 0)) (se_var 3)))))) (jb_cons (js_augfld 0 2 T.cl0 T.na0_2 op_iadd pr_iadd (se_var 0) (je_len (ja_cons (se_var 2) ja_nil) rfl rfl T.z_len) (nd := nd0) (hl := hl0)) (jb_one (js_ret (se_var 2)))))))
theorem ok20 (T : Txt K mg a0 a1 a2 a3 a4 a5 a6 a7 a8 a9 a10 a11 a12 a13 a14 a15 a16 a17 a18 a19 a20 a21 a22 a23 C0 E0 E1 E2 E3 ea0 ea1 ea2 ea3 d0 d1 d2 d3 d4 d5 d6 d7 d8 d9 d10 d11 d12 d13 d14 d15 d16 d17 d18 d19 d20 d21 d22 d23 ed0 ed1 ed2 ed3) : Mi.FnOk P w K mg base (L2.CX P w) 6 a20 d20 ["_law_box", "_law_door", "_law_item"] (spF (RK K C0 E0 E1 E2 E3) 3 r20) := by
  have G2 := ok2 (P := P) (w := w) (base := base) T
  have G18 := ok18 (P := P) (w := w) (base := base) T
  have G19 := ok19 (P := P) (w := w) (base := base) T
  have G8 := ok8 (P := P) (w := w) (base := base) T
  refine fn_def T.F20 sc20 rfl (by decide) fun cdv A outer s H E hr tk hp => ?_
  have hN := sc20.nd
  exact (jb_cons (js_set (i := 3) hN se_non) (jb_cons (js_tryC (i := 4) (j := 3) (cm := ct0132) (fb := (mIf (mTestB (mBin (opEqv false) (mVar 1) (mC (.int 0)))) (mExpr (mMake 0 5 r2 2 (mConsS (mVar 2) (fun s => .ok [] s)))) (mIf (mTestB (mBin (opEqv false) (mVar 1) (mC (.int 1)))) (mExpr (mMeth 0 r8 2 (mVar 0) (mConsS (mVar 2) (fun s => .ok [] s)))) (mIf (mTestB (mBin (opEqv false) (mVar 1) (mC (.int 2)))) (mExpr (mMeth 0 r19 2 (mVar 0) (mConsS (mVar 2) (fun s => .ok [] s)))) (mExpr (mMeth 0 r18 2 (mVar 0) (mConsS (mVar 2) (fun s => .ok [] s)))))))) hN (clause_tup4 (names_own T.em0) (names_own T.em1) (names_own T.em3) (names_own T.em2)) tk rfl rfl T.xct0132 (by intro W1 pn1 xe1 tk hp; exact (jb_one (js_if (jt_eq hr (se_var 1) se_int) (jb_one (js_expr (je_make (R := (RK K C0 E0 E1 E2 E3)) 0 T.mk0 G2 tk (hr.mono (by decide)) T.mc0 T.b2 (jas_cons (se_var 2) jas_nil)))) (jb_one (js_if (jt_eq hr (se_var 1) se_int) (jb_one (js_expr (je_meth 0 T.cl0 T.me8 G8 tk (hr.mono (by decide)) T.b8 (se_var 0) (jas_cons (se_var 2) jas_nil) (hnm := nm8)))) (jb_one (js_if (jt_eq hr (se_var 1) se_int) (jb_one (js_expr (je_meth 0 T.cl0 T.me19 G19 tk (hr.mono (by decide)) T.b19 (se_var 0) (jas_cons (se_var 2) jas_nil) (hnm := nm19)))) (jb_one (js_expr (je_meth 0 T.cl0 T.me18 G18 tk (hr.mono (by decide)) T.b18 (se_var 0) (jas_cons (se_var 2) jas_nil) (hnm := nm18)))))))))))) (jb_cons (js_set (i := 5) hN (je_lst (jas_cons (je_isX (se_var 3) T.z_isinstance T.em0 T.ix0) (jas_cons (je_isX (se_var 3) T.z_isinstance T.em1 T.ix1) (jas_cons (je_isX (se_var 3) T.z_isinstance T.em3 T.ix3) (jas_cons (je_isX (se_var 3) T.z_isinstance T.em2 T.ix2) jas_nil)))))) (jb_one (js_ret (je_and (je_eq hr (se_var 5) (je_lc (own := [("_law_at", 6)]) rfl hN (ji_range1 T.z_range (ja_cons se_int ja_nil)) (blkOk_by (by rfl)) (fun _ _ _ _ _ => (jg_name (i := 6) hN)) (fun _ _ _ _ _ => jts_nil) (fun _ _ _ _ _ => (je_eq hr (se_var 6) (se_var 1))))) (je_one (je_isXb (se_var 3) T.z_isinstance T.z_ValueError boot_ValueError T.ib_ValueError))))))))
theorem ok21 (T : Txt K mg a0 a1 a2 a3 a4 a5 a6 a7 a8 a9 a10 a11 a12 a13 a14 a15 a16 a17 a18 a19 a20 a21 a22 a23 C0 E0 E1 E2 E3 ea0 ea1 ea2 ea3 d0 d1 d2 d3 d4 d5 d6 d7 d8 d9 d10 d11 d12 d13 d14 d15 d16 d17 d18 d19 d20 d21 d22 d23 ed0 ed1 ed2 ed3) : Mi.FnOk P w K mg base (L2.CX P w) 1 a21 d21 ["_law_pool_here", "_law_many"] (spF (RK K C0 E0 E1 E2 E3) 2 r21) := by
  refine fn_def T.F21 sc21 rfl (by decide) fun cdv A outer s H E hr tk hp => ?_
  have hN := sc21.nd
  exact (jb_cons (js_if (jt_gt (je_ixA hr (se_var 0) se_int) se_int) (jb_cons (js_set (i := 2) hN (je_mod (je_ixA hr (se_var 0) se_int) (se_var 1))) (jb_cons (js_setixA hr (je_div (je_ixA hr (se_var 0) se_int) (se_var 1)) (se_var 0) se_int) (jb_one (js_ret (se_var 2))))) jb_nil) (jb_cons (js_setixA hr (je_mod (je_add (je_mul (je_ixA hr (se_var 0) se_int) se_int) se_int) se_int) (se_var 0) se_int) (jb_one (js_ret (je_mod (je_div (je_mod (je_mul (je_ixA hr (se_var 0) se_int) (je_ixA hr (se_var 0) se_int)) se_int) se_int) (se_var 1))))))
theorem ok22 (T : Txt K mg a0 a1 a2 a3 a4 a5 a6 a7 a8 a9 a10 a11 a12 a13 a14 a15 a16 a17 a18 a19 a20 a21 a22 a23 C0 E0 E1 E2 E3 ea0 ea1 ea2 ea3 d0 d1 d2 d3 d4 d5 d6 d7 d8 d9 d10 d11 d12 d13 d14 d15 d16 d17 d18 d19 d20 d21 d22 d23 ed0 ed1 ed2 ed3) : Mi.FnOk P w K mg base (L2.CX P w) 2 a22 d22 ["_law_pool_here", "_law_many"] (spF (RK K C0 E0 E1 E2 E3) 2 r22) := by
  have G21 := ok21 (P := P) (w := w) (base := base) T
  refine fn_def T.F22 sc22 rfl (by decide) fun cdv A outer s H E hr tk hp => ?_
  have hN := sc22.nd
  exact (jb_one (js_ret (je_join se_str (ja_cons (je_lc (own := [("_law_turn", 2)]) rfl hN (ji_range1 T.z_range (ja_cons (se_var 1) ja_nil)) (blkOk_by (by rfl)) (fun _ _ _ _ _ => (jg_name (i := 2) hN)) (fun _ _ _ _ _ => jts_nil) (fun _ _ _ _ _ => (je_ixA hr se_str (je_call G21 takes_no (hr.mono (by decide)) T.m21 T.k21 T.b21 (jas_cons (se_var 0) (jas_cons se_int jas_nil)))))) ja_nil))))
theorem ok23 (T : Txt K mg a0 a1 a2 a3 a4 a5 a6 a7 a8 a9 a10 a11 a12 a13 a14 a15 a16 a17 a18 a19 a20 a21 a22 a23 C0 E0 E1 E2 E3 ea0 ea1 ea2 ea3 d0 d1 d2 d3 d4 d5 d6 d7 d8 d9 d10 d11 d12 d13 d14 d15 d16 d17 d18 d19 d20 d21 d22 d23 ed0 ed1 ed2 ed3) : Mi.FnOk P w K mg base (L2.CX P w) 7 a23 d23 ["_law_script"] (spF (RK K C0 E0 E1 E2 E3) 1 r23) := by
  have G2 := ok2 (P := P) (w := w) (base := base) T
  have G8 := ok8 (P := P) (w := w) (base := base) T
  have G16 := ok16 (P := P) (w := w) (base := base) T
  have G17 := ok17 (P := P) (w := w) (base := base) T
  have G20 := ok20 (P := P) (w := w) (base := base) T
  have G22 := ok22 (P := P) (w := w) (base := base) T
  have G21 := ok21 (P := P) (w := w) (base := base) T
  refine fn_def T.F23 sc23 rfl (by decide) fun cdv A outer s H E hr tk hp => ?_
  have hN := sc23.nd
  exact (jb_cons (js_set (i := 1) hN (je_lst (jas_cons se_non (jas_cons se_bl (jas_cons se_bl (jas_cons (je_neg se_int) (jas_cons se_str (jas_cons se_str (jas_cons se_str (jas_cons (je_tup jas_nil) (jas_cons (je_lst jas_nil) (jas_cons je_dict0 (jas_cons (je_tup (jas_cons se_int jas_nil)) (jas_cons (je_lst (jas_cons se_int (jas_cons se_str jas_nil))) (jas_cons se_str (jas_cons (je_tup (jas_cons se_int (jas_cons se_int jas_nil))) jas_nil)))))))))))))))) (jb_cons (js_set (i := 2) hN (je_lst (jas_cons (je_add (se_var 1) (je_lst (jas_cons se_int (jas_cons se_int (jas_cons (je_pow se_int se_int) (jas_cons (je_tup (jas_cons se_int (jas_cons se_str jas_nil))) jas_nil)))))) (jas_cons (je_add (se_var 1) (je_lst (jas_cons se_int (jas_cons se_int (jas_cons (je_tup (jas_cons se_int (jas_cons se_str jas_nil))) (jas_cons (je_tup (jas_cons (je_neg se_int) (jas_cons se_str jas_nil))) (jas_cons (je_tup (jas_cons se_int (jas_cons se_str jas_nil))) (jas_cons (je_tup (jas_cons se_int (jas_cons se_str (jas_cons se_int jas_nil)))) (jas_cons (je_tup (jas_cons se_bl (jas_cons se_str jas_nil))) jas_nil))))))))) jas_nil)))) (jb_cons (js_set (i := 2) hN (je_add (se_var 2) (je_lst (jas_cons (je_add (se_var 1) (je_lst (jas_cons (je_neg se_int) (jas_cons (je_tup (jas_cons se_int (jas_cons se_str jas_nil))) jas_nil)))) (jas_cons (je_add (se_var 1) (je_lst (jas_cons (je_neg se_int) (jas_cons (je_tup (jas_cons se_int (jas_cons se_str jas_nil))) jas_nil)))) jas_nil))))) (jb_cons (js_for hp rfl (ji_range1 T.z_range (ja_cons (je_max (ja_cons se_int (ja_cons (je_min (ja_cons (je_len (ja_cons (se_var 0) ja_nil) rfl rfl T.z_len) (ja_cons se_int ja_nil)) rfl rfl T.z_min) ja_nil)) rfl rfl T.z_max) ja_nil)) (jg_name (i := 3) hN) (fb := b23f3) (jb_cons (js_set (i := 4) hN (je_box (je_call G17 tk (hr.mono (by decide)) T.m17 T.k17 T.b17 (jas_cons (se_var 0) (jas_cons (se_var 3) jas_nil))))) (jb_cons (js_set (i := 5) hN (je_make (R := (RK K C0 E0 E1 E2 E3)) 0 T.mk0 G2 tk (hr.mono (by decide)) T.mc0 T.b2 (jas_cons (je_add se_int (je_mul se_int (je_call G21 tk (hr.mono (by decide)) T.m21 T.k21 T.b21 (jas_cons (se_var 4) (jas_cons se_int jas_nil))))) jas_nil))) (jb_cons (js_for hp rfl (ji_range1 T.z_range (ja_cons (je_call G21 tk (hr.mono (by decide)) T.m21 T.k21 T.b21 (jas_cons (se_var 4) (jas_cons se_int jas_nil))) ja_nil)) (jg_name (i := 6) hN) (fb := b23f0) (jb_one (js_expr (je_meth 0 T.cl0 T.me8 G8 tk (hr.mono (by decide)) T.b8 (se_var 5) (jas_cons (je_tup (jas_cons (je_call G21 tk (hr.mono (by decide)) T.m21 T.k21 T.b21 (jas_cons (se_var 4) (jas_cons se_int jas_nil))) (jas_cons (je_call G22 tk (hr.mono (by decide)) T.m22 T.k22 T.b22 (jas_cons (se_var 4) (jas_cons (je_add se_int (je_call G21 tk (hr.mono (by decide)) T.m21 T.k21 T.b21 (jas_cons (se_var 4) (jas_cons se_int jas_nil)))) jas_nil))) jas_nil))) jas_nil) (hnm := nm8))))) (jb_cons (js_set (i := 7) hN (je_call G16 tk (hr.mono (by decide)) T.m16 T.k16 T.b16 (jas_cons (se_var 5) jas_nil))) (jb_one (js_for hp rfl (ji_range1 T.z_range (ja_cons se_int ja_nil)) (jg_name (i := 8) hN) (fb := b23f2) (jb_cons (js_set (i := 9) hN (je_call G21 tk (hr.mono (by decide)) T.m21 T.k21 T.b21 (jas_cons (se_var 4) (jas_cons (je_len (ja_cons (je_ixA hr (se_var 2) (se_var 8)) ja_nil) rfl rfl T.z_len) jas_nil)))) (jb_one (js_for hp rfl (ji_any (je_add (je_slice (je_ixA hr (se_var 2) (se_var 8)) (jo_some (se_var 9)) jo_none) (je_slice (je_ixA hr (se_var 2) (se_var 8)) jo_none (jo_some (se_var 9))))) (jg_name (i := 10) hN) (fb := b23f1) (jb_one (js_if (jt_w (jw_or (jt_not (jt_plain (je_call G20 tk (hr.mono (by decide)) T.m20 T.k20 T.b20 (jas_cons (se_var 5) (jas_cons (se_var 8) (jas_cons (se_var 10) jas_nil)))))) (jw_or1 (jt_ne hr (je_call G16 tk (hr.mono (by decide)) T.m16 T.k16 T.b16 (jas_cons (se_var 5) jas_nil)) (se_var 7))))) (jb_one (js_ret se_bl)) jb_nil)))))))))))) (jb_one (js_ret se_bl))))))
end
def spL (K : PySem.W.Frag) : Sp := fun vs H Q E => ∀ (C0 E0 E1 E2 E3 : Addr), spF (RK K C0 E0 E1 E2 E3) 1 r23 vs H Q E
theorem all_mk {l : PySem.W.OpenLaw} {w : World} {K : PySem.W.Frag} {h : Heap} {mg : Str → Option Value} {fa a0 a1 a2 a3 a4 a5 a6 a7 a8 a9 a10 a11 a12 a13 a14 a15 a16 a17 a18 a19 a20 a21 a22 a23 C0 E0 E1 E2 E3 ea0 ea1 ea2 ea3 : Addr} (X : K.In h) (G : h.Ns mainGlobals mg) (hfa : mg "law" = some (.ref fa))
    {od0 an0 od1 an1 od2 an2 od3 an3 od4 an4 od5 an5 od6 an6 od7 an7 od8 an8 od9 an9 od10 an10 od11 an11 od12 an12 od13 an13 od14 an14 od15 an15 od16 an16 od17 an17 od18 an18 od19 an19 od20 an20 od21 an21 od22 an22 od23 an23 : Option Addr} {sl0 sl1 sl2 sl3 sl4 sl5 sl6 sl7 sl8 sl9 sl10 sl11 sl12 sl13 sl14 sl15 sl16 sl17 sl18 sl19 sl20 sl21 sl22 sl23 : Array (Option Value)} {oc0 kV0 dc0 pm0 cd0 ct0 oc1 kV1 dc1 pm1 cd1 ct1 oc2 kV2 dc2 pm2 cd2 ct2 oc3 kV3 dc3 pm3 cd3 ct3 oc4 kV4 dc4 pm4 cd4 ct4 oc5 kV5 dc5 pm5 cd5 ct5 oc6 kV6 dc6 pm6 cd6 ct6 oc7 kV7 dc7 pm7 cd7 ct7 oc8 kV8 dc8 pm8 cd8 ct8 oc9 kV9 dc9 pm9 cd9 ct9 oc10 kV10 dc10 pm10 cd10 ct10 oc11 kV11 dc11 pm11 cd11 ct11 oc12 kV12 dc12 pm12 cd12 ct12 oc13 kV13 dc13 pm13 cd13 ct13 oc14 kV14 dc14 pm14 cd14 ct14 oc15 kV15 dc15 pm15 cd15 ct15 oc16 kV16 dc16 pm16 cd16 ct16 oc17 kV17 dc17 pm17 cd17 ct17 oc18 kV18 dc18 pm18 cd18 ct18 oc19 kV19 dc19 pm19 cd19 ct19 oc20 kV20 dc20 pm20 cd20 ct20 oc21 kV21 dc21 pm21 cd21 ct21 oc22 kV22 dc22 pm22 cd22 ct22 oc23 kV23 dc23 pm23 cd23 ct23 : Value}
    {nmE0 qE0 : Str} {NE0 : Addr} {bsE0 : List Value} {snE0 : List Str} {subE0 : List Value} {abE0 : Bool} {colE0 : Option Bool} {ddE0 : Option Addr} {m0E0 m1E0 m2E0 m3E0 m5E0 : Option Value} {eodE0 eanE0 : Option Addr} {eslE0 : Array (Option Value)} {eocE0 ekVE0 edcE0 epmE0 ecdE0 ectE0 : Value}
    {nmE1 qE1 : Str} {NE1 : Addr} {bsE1 : List Value} {snE1 : List Str} {subE1 : List Value} {abE1 : Bool} {colE1 : Option Bool} {ddE1 : Option Addr} {m0E1 m1E1 m2E1 m3E1 m5E1 : Option Value} {eodE1 eanE1 : Option Addr} {eslE1 : Array (Option Value)} {eocE1 ekVE1 edcE1 epmE1 ecdE1 ectE1 : Value}
    {nmE2 qE2 : Str} {NE2 : Addr} {bsE2 : List Value} {snE2 : List Str} {subE2 : List Value} {abE2 : Bool} {colE2 : Option Bool} {ddE2 : Option Addr} {m0E2 m1E2 m2E2 m3E2 m5E2 : Option Value} {eodE2 eanE2 : Option Addr} {eslE2 : Array (Option Value)} {eocE2 ekVE2 edcE2 epmE2 ecdE2 ectE2 : Value}
    {nmE3 qE3 : Str} {NE3 : Addr} {bsE3 : List Value} {snE3 : List Str} {subE3 : List Value} {abE3 : Bool} {colE3 : Option Bool} {ddE3 : Option Addr} {m0E3 m1E3 m2E3 m3E3 m5E3 : Option Value} {eodE3 eanE3 : Option Addr} {eslE3 : Array (Option Value)} {eocE3 ekVE3 edcE3 epmE3 ecdE3 ectE3 : Value}
    (x0 : PySem.W.nsIn K mainGlobals "is_whole" = some (some (.ref a0)))
    (l0 : K.lookup a0 = some ⟨oc0, od0, .func (PySem.W.fnOf "is_whole" "is_whole" (defArgs s0) (defBody s0) (defScope s0) .none kV0 dc0 pm0 an0 cd0 ct0), sl0⟩) (c0 : PySem.W.codeIn K cd0 "is_whole" = true) (k0 : PySem.W.keepIn K (.ref a0) = true)
    (x1 : PySem.W.nsIn K mainGlobals "look_at_room" = some (some (.ref a1)))
    (l1 : K.lookup a1 = some ⟨oc1, od1, .func (PySem.W.fnOf "look_at_room" "look_at_room" (defArgs s1) (defBody s1) (defScope s1) .none kV1 dc1 pm1 an1 cd1 ct1), sl1⟩) (c1 : PySem.W.codeIn K cd1 "look_at_room" = true) (k1 : PySem.W.keepIn K (.ref a1) = true)
    (x2 : PySem.W.findIn K (.ref C0) "__init__" = some (some (.ref a2))) (i2 : PySem.W.isFn K (.ref a2) = true)
    (l2 : K.lookup a2 = some ⟨oc2, od2, .func (PySem.W.fnOf "__init__" "Joiner.__init__" (defArgs s2) (defBody s2) (defScope s2) .none kV2 dc2 pm2 an2 cd2 ct2), sl2⟩) (c2 : PySem.W.codeIn K cd2 "Joiner.__init__" = true) (k2 : PySem.W.keepIn K (.ref a2) = true)
    (x3 : PySem.W.findIn K (.ref C0) "limit" = some (some (.ref a3))) (i3 : PySem.W.isFn K (.ref a3) = true)
    (l3 : K.lookup a3 = some ⟨oc3, od3, .func (PySem.W.fnOf "limit" "Joiner.limit" (defArgs s3) (defBody s3) (defScope s3) .none kV3 dc3 pm3 an3 cd3 ct3), sl3⟩) (c3 : PySem.W.codeIn K cd3 "Joiner.limit" = true) (k3 : PySem.W.keepIn K (.ref a3) = true)
    (x4 : PySem.W.findIn K (.ref C0) "is_new" = some (some (.ref a4))) (i4 : PySem.W.isFn K (.ref a4) = true)
    (l4 : K.lookup a4 = some ⟨oc4, od4, .func (PySem.W.fnOf "is_new" "Joiner.is_new" (defArgs s4) (defBody s4) (defScope s4) .none kV4 dc4 pm4 an4 cd4 ct4), sl4⟩) (c4 : PySem.W.codeIn K cd4 "Joiner.is_new" = true) (k4 : PySem.W.keepIn K (.ref a4) = true)
    (x5 : PySem.W.nsIn K mainGlobals "is_from" = some (some (.ref a5)))
    (l5 : K.lookup a5 = some ⟨oc5, od5, .func (PySem.W.fnOf "is_from" "is_from" (defArgs s5) (defBody s5) (defScope s5) .none kV5 dc5 pm5 an5 cd5 ct5), sl5⟩) (c5 : PySem.W.codeIn K cd5 "is_from" = true) (k5 : PySem.W.keepIn K (.ref a5) = true)
    (x6 : PySem.W.nsIn K mainGlobals "is_signs" = some (some (.ref a6)))
    (l6 : K.lookup a6 = some ⟨oc6, od6, .func (PySem.W.fnOf "is_signs" "is_signs" (defArgs s6) (defBody s6) (defScope s6) .none kV6 dc6 pm6 an6 cd6 ct6), sl6⟩) (c6 : PySem.W.codeIn K cd6 "is_signs" = true) (k6 : PySem.W.keepIn K (.ref a6) = true)
    (x7 : PySem.W.nsIn K mainGlobals "is_piece" = some (some (.ref a7)))
    (l7 : K.lookup a7 = some ⟨oc7, od7, .func (PySem.W.fnOf "is_piece" "is_piece" (defArgs s7) (defBody s7) (defScope s7) .none kV7 dc7 pm7 an7 cd7 ct7), sl7⟩) (c7 : PySem.W.codeIn K cd7 "is_piece" = true) (k7 : PySem.W.keepIn K (.ref a7) = true)
    (x8 : PySem.W.findIn K (.ref C0) "take" = some (some (.ref a8))) (i8 : PySem.W.isFn K (.ref a8) = true)
    (l8 : K.lookup a8 = some ⟨oc8, od8, .func (PySem.W.fnOf "take" "Joiner.take" (defArgs s8) (defBody s8) (defScope s8) .none kV8 dc8 pm8 an8 cd8 ct8), sl8⟩) (c8 : PySem.W.codeIn K cd8 "Joiner.take" = true) (k8 : PySem.W.keepIn K (.ref a8) = true)
    (x9 : PySem.W.nsIn K mainGlobals "joined" = some (some (.ref a9)))
    (l9 : K.lookup a9 = some ⟨oc9, od9, .func (PySem.W.fnOf "joined" "joined" (defArgs s9) (defBody s9) (defScope s9) .none kV9 dc9 pm9 an9 cd9 ct9), sl9⟩) (c9 : PySem.W.codeIn K cd9 "joined" = true) (k9 : PySem.W.keepIn K (.ref a9) = true)
    (x10 : PySem.W.findIn K (.ref C0) "beyond" = some (some (.ref a10))) (i10 : PySem.W.isFn K (.ref a10) = true)
    (l10 : K.lookup a10 = some ⟨oc10, od10, .func (PySem.W.fnOf "beyond" "Joiner.beyond" (defArgs s10) (defBody s10) (defScope s10) .none kV10 dc10 pm10 an10 cd10 ct10), sl10⟩) (c10 : PySem.W.codeIn K cd10 "Joiner.beyond" = true) (k10 : PySem.W.keepIn K (.ref a10) = true)
    (x11 : PySem.W.findIn K (.ref C0) "ended" = some (some (.ref a11))) (i11 : PySem.W.isFn K (.ref a11) = true)
    (l11 : K.lookup a11 = some ⟨oc11, od11, .func (PySem.W.fnOf "ended" "Joiner.ended" (defArgs s11) (defBody s11) (defScope s11) .none kV11 dc11 pm11 an11 cd11 ct11), sl11⟩) (c11 : PySem.W.codeIn K cd11 "Joiner.ended" = true) (k11 : PySem.W.keepIn K (.ref a11) = true)
    (x12 : PySem.W.findIn K (.ref C0) "held" = some (some (.ref a12))) (i12 : PySem.W.isFn K (.ref a12) = true)
    (l12 : K.lookup a12 = some ⟨oc12, od12, .func (PySem.W.fnOf "held" "Joiner.held" (defArgs s12) (defBody s12) (defScope s12) .none kV12 dc12 pm12 an12 cd12 ct12), sl12⟩) (c12 : PySem.W.codeIn K cd12 "Joiner.held" = true) (k12 : PySem.W.keepIn K (.ref a12) = true)
    (x13 : PySem.W.findIn K (.ref C0) "is_over" = some (some (.ref a13))) (i13 : PySem.W.isFn K (.ref a13) = true)
    (l13 : K.lookup a13 = some ⟨oc13, od13, .func (PySem.W.fnOf "is_over" "Joiner.is_over" (defArgs s13) (defBody s13) (defScope s13) .none kV13 dc13 pm13 an13 cd13 ct13), sl13⟩) (c13 : PySem.W.codeIn K cd13 "Joiner.is_over" = true) (k13 : PySem.W.keepIn K (.ref a13) = true)
    (x14 : PySem.W.findIn K (.ref C0) "known" = some (some (.ref a14))) (i14 : PySem.W.isFn K (.ref a14) = true)
    (l14 : K.lookup a14 = some ⟨oc14, od14, .func (PySem.W.fnOf "known" "Joiner.known" (defArgs s14) (defBody s14) (defScope s14) .none kV14 dc14 pm14 an14 cd14 ct14), sl14⟩) (c14 : PySem.W.codeIn K cd14 "Joiner.known" = true) (k14 : PySem.W.keepIn K (.ref a14) = true)
    (x15 : PySem.W.findIn K (.ref C0) "ready" = some (some (.ref a15))) (i15 : PySem.W.isFn K (.ref a15) = true)
    (l15 : K.lookup a15 = some ⟨oc15, od15, .func (PySem.W.fnOf "ready" "Joiner.ready" (defArgs s15) (defBody s15) (defScope s15) .none kV15 dc15 pm15 an15 cd15 ct15), sl15⟩) (c15 : PySem.W.codeIn K cd15 "Joiner.ready" = true) (k15 : PySem.W.keepIn K (.ref a15) = true)
    (x16 : PySem.W.nsIn K mainGlobals "_law_box_told" = some (some (.ref a16)))
    (l16 : K.lookup a16 = some ⟨oc16, od16, .func (PySem.W.fnOf "_law_box_told" "_law_box_told" (defArgs s16) (defBody s16) (defScope s16) .none kV16 dc16 pm16 an16 cd16 ct16), sl16⟩) (c16 : PySem.W.codeIn K cd16 "_law_box_told" = true) (k16 : PySem.W.keepIn K (.ref a16) = true)
    (x17 : PySem.W.nsIn K mainGlobals "_law_pool" = some (some (.ref a17)))
    (l17 : K.lookup a17 = some ⟨oc17, od17, .func (PySem.W.fnOf "_law_pool" "_law_pool" (defArgs s17) (defBody s17) (defScope s17) .none kV17 dc17 pm17 an17 cd17 ct17), sl17⟩) (c17 : PySem.W.codeIn K cd17 "_law_pool" = true) (k17 : PySem.W.keepIn K (.ref a17) = true)
    (x18 : PySem.W.findIn K (.ref C0) "end" = some (some (.ref a18))) (i18 : PySem.W.isFn K (.ref a18) = true)
    (l18 : K.lookup a18 = some ⟨oc18, od18, .func (PySem.W.fnOf "end" "Joiner.end" (defArgs s18) (defBody s18) (defScope s18) .none kV18 dc18 pm18 an18 cd18 ct18), sl18⟩) (c18 : PySem.W.codeIn K cd18 "Joiner.end" = true) (k18 : PySem.W.keepIn K (.ref a18) = true)
    (x19 : PySem.W.findIn K (.ref C0) "read" = some (some (.ref a19))) (i19 : PySem.W.isFn K (.ref a19) = true)
    (l19 : K.lookup a19 = some ⟨oc19, od19, .func (PySem.W.fnOf "read" "Joiner.read" (defArgs s19) (defBody s19) (defScope s19) .none kV19 dc19 pm19 an19 cd19 ct19), sl19⟩) (c19 : PySem.W.codeIn K cd19 "Joiner.read" = true) (k19 : PySem.W.keepIn K (.ref a19) = true)
    (x20 : PySem.W.nsIn K mainGlobals "_law_refused" = some (some (.ref a20)))
    (l20 : K.lookup a20 = some ⟨oc20, od20, .func (PySem.W.fnOf "_law_refused" "_law_refused" (defArgs s20) (defBody s20) (defScope s20) .none kV20 dc20 pm20 an20 cd20 ct20), sl20⟩) (c20 : PySem.W.codeIn K cd20 "_law_refused" = true) (k20 : PySem.W.keepIn K (.ref a20) = true)
    (x21 : PySem.W.nsIn K mainGlobals "_law_take" = some (some (.ref a21)))
    (l21 : K.lookup a21 = some ⟨oc21, od21, .func (PySem.W.fnOf "_law_take" "_law_take" (defArgs s21) (defBody s21) (defScope s21) .none kV21 dc21 pm21 an21 cd21 ct21), sl21⟩) (c21 : PySem.W.codeIn K cd21 "_law_take" = true) (k21 : PySem.W.keepIn K (.ref a21) = true)
    (x22 : PySem.W.nsIn K mainGlobals "_law_signs" = some (some (.ref a22)))
    (l22 : K.lookup a22 = some ⟨oc22, od22, .func (PySem.W.fnOf "_law_signs" "_law_signs" (defArgs s22) (defBody s22) (defScope s22) .none kV22 dc22 pm22 an22 cd22 ct22), sl22⟩) (c22 : PySem.W.codeIn K cd22 "_law_signs" = true) (k22 : PySem.W.keepIn K (.ref a22) = true)
    (x23 : PySem.W.nsIn K mainGlobals "law" = some (some (.ref a23)))
    (l23 : K.lookup a23 = some ⟨oc23, od23, .func (PySem.W.fnOf "law" "law" (defArgs s23) (defBody s23) (defScope s23) .none kV23 dc23 pm23 an23 cd23 ct23), sl23⟩) (c23 : PySem.W.codeIn K cd23 "law" = true) (k23 : PySem.W.keepIn K (.ref a23) = true)
    (aC0 : PySem.W.nsIn K mainGlobals "Joiner" = some (some (.ref C0))) (pg0 : PySem.W.plainGet K C0 Str.empty = true) (hd0 : PySem.W.hasDictIn K C0 = true) (po0 : PySem.W.plainOver K C0 = true) (sa0 : PySem.W.findIn K (.ref C0) "__setattr__" = some (some (.builtin "object.__setattr__"))) (mK0 : PySem.W.makesIn K C0 = true) (kc0 : PySem.W.keepIn K (.ref C0) = true)
    (na0_0 : PySem.W.findIn K (.ref C0) "own_room" = some none)
    (na0_1 : PySem.W.findIn K (.ref C0) "own_signs" = some none)
    (na0_2 : PySem.W.findIn K (.ref C0) "many_read" = some none)
    (na0_3 : PySem.W.findIn K (.ref C0) "many_known" = some none)
    (na0_4 : PySem.W.findIn K (.ref C0) "own_end" = some none)
    (xa0 : PySem.W.nsIn K mainGlobals "NoRoom" = some (some (.ref E0)))
    (xL0 : K.lookup E0 = some (excClassObj nmE0 qE0 E0 NE0 bsE0 [.type "ValueError", .type "Exception", .type "BaseException", .type "object"] true snE0 subE0 abE0 colE0 ddE0 m0E0 m1E0 m2E0 m3E0 m5E0 "ValueError.__new__"))
    (xs0 : PySem.W.findIn K (.ref E0) "__setattr__" = some (some (.builtin "object.__setattr__")))
    (xi0 : PySem.W.findIn K (.ref E0) "__init__" = some (some (.ref ea0)))
    (xt0 : PySem.W.typeIn K (.ref ea0) = some (.type "function"))
    (xl0 : K.lookup ea0 = some ⟨eocE0, eodE0, .func (PySem.W.fnOf "__init__" "NoRoom.__init__" (defArgs es0) (defBody es0) (defScope es0) .none ekVE0 edcE0 epmE0 eanE0 ecdE0 ectE0), eslE0⟩)
    (xc0 : PySem.W.codeIn K ecdE0 "NoRoom.__init__" = true)
    (xp0 : PySem.W.keepIn K (.ref ea0) = true)
    (xk0 : PySem.W.keepIn K (.ref E0) = true)
    (xe0 : PySem.W.subIn K (.ref E0) (.type "BaseException") = some true)
    (xy0 : PySem.W.typeIn K (.ref E0) = some (.type "type"))
    (xh0 : PySem.W.hasDictIn K E0 = true)
    (xf0 : PySem.W.subIn K (.ref E0) (.ref E0) = some true)
    (xq_1_0 : PySem.W.subIn K (.ref E0) (.ref E1) = some false)
    (xq_2_0 : PySem.W.subIn K (.ref E0) (.ref E2) = some false)
    (xq_3_0 : PySem.W.subIn K (.ref E0) (.ref E3) = some false)
    (xg0 : PySem.W.findIn K (.ref E0) "__getattribute__" = some (some (.builtin "BaseException.__getattribute__")))
    (xG0 : PySem.W.findIn K (.ref E0) "__getattr__" = some none)
    (xC0 : PySem.W.findIn K (.ref E0) "__class__" = some (some (.builtin "object.__class__")))
    (xm0 : PySem.W.mroIn K E0 (.type "object") = some true)
    (kx_0_0 : PySem.W.kitOne K (.ref E0) (.ref E0) = some true)
    (kx_2_0 : PySem.W.kitOne K (.ref E0) (.ref E2) = some false)
    (kx_1_0 : PySem.W.kitOne K (.ref E0) (.ref E1) = some false)
    (kx_3_0 : PySem.W.kitOne K (.ref E0) (.ref E3) = some false)
    (kt_ValueError_0 : PySem.W.kitOne K (.ref E0) (.type "ValueError") = some true)
    (xa1 : PySem.W.nsIn K mainGlobals "NoPiece" = some (some (.ref E1)))
    (xL1 : K.lookup E1 = some (excClassObj nmE1 qE1 E1 NE1 bsE1 [.type "ValueError", .type "Exception", .type "BaseException", .type "object"] true snE1 subE1 abE1 colE1 ddE1 m0E1 m1E1 m2E1 m3E1 m5E1 "ValueError.__new__"))
    (xs1 : PySem.W.findIn K (.ref E1) "__setattr__" = some (some (.builtin "object.__setattr__")))
    (xi1 : PySem.W.findIn K (.ref E1) "__init__" = some (some (.ref ea1)))
    (xt1 : PySem.W.typeIn K (.ref ea1) = some (.type "function"))
    (xl1 : K.lookup ea1 = some ⟨eocE1, eodE1, .func (PySem.W.fnOf "__init__" "NoPiece.__init__" (defArgs es1) (defBody es1) (defScope es1) .none ekVE1 edcE1 epmE1 eanE1 ecdE1 ectE1), eslE1⟩)
    (xc1 : PySem.W.codeIn K ecdE1 "NoPiece.__init__" = true)
    (xp1 : PySem.W.keepIn K (.ref ea1) = true)
    (xk1 : PySem.W.keepIn K (.ref E1) = true)
    (xe1 : PySem.W.subIn K (.ref E1) (.type "BaseException") = some true)
    (xy1 : PySem.W.typeIn K (.ref E1) = some (.type "type"))
    (xh1 : PySem.W.hasDictIn K E1 = true)
    (xf1 : PySem.W.subIn K (.ref E1) (.ref E1) = some true)
    (xq_0_1 : PySem.W.subIn K (.ref E1) (.ref E0) = some false)
    (xq_2_1 : PySem.W.subIn K (.ref E1) (.ref E2) = some false)
    (xq_3_1 : PySem.W.subIn K (.ref E1) (.ref E3) = some false)
    (xg1 : PySem.W.findIn K (.ref E1) "__getattribute__" = some (some (.builtin "BaseException.__getattribute__")))
    (xG1 : PySem.W.findIn K (.ref E1) "__getattr__" = some none)
    (xC1 : PySem.W.findIn K (.ref E1) "__class__" = some (some (.builtin "object.__class__")))
    (xm1 : PySem.W.mroIn K E1 (.type "object") = some true)
    (kx_0_1 : PySem.W.kitOne K (.ref E1) (.ref E0) = some false)
    (kx_2_1 : PySem.W.kitOne K (.ref E1) (.ref E2) = some false)
    (kx_1_1 : PySem.W.kitOne K (.ref E1) (.ref E1) = some true)
    (kx_3_1 : PySem.W.kitOne K (.ref E1) (.ref E3) = some false)
    (kt_ValueError_1 : PySem.W.kitOne K (.ref E1) (.type "ValueError") = some true)
    (xa2 : PySem.W.nsIn K mainGlobals "NoEnd" = some (some (.ref E2)))
    (xL2 : K.lookup E2 = some (excClassObj nmE2 qE2 E2 NE2 bsE2 [.type "ValueError", .type "Exception", .type "BaseException", .type "object"] true snE2 subE2 abE2 colE2 ddE2 m0E2 m1E2 m2E2 m3E2 m5E2 "ValueError.__new__"))
    (xs2 : PySem.W.findIn K (.ref E2) "__setattr__" = some (some (.builtin "object.__setattr__")))
    (xi2 : PySem.W.findIn K (.ref E2) "__init__" = some (some (.ref ea2)))
    (xt2 : PySem.W.typeIn K (.ref ea2) = some (.type "function"))
    (xl2 : K.lookup ea2 = some ⟨eocE2, eodE2, .func (PySem.W.fnOf "__init__" "NoEnd.__init__" (defArgs es2) (defBody es2) (defScope es2) .none ekVE2 edcE2 epmE2 eanE2 ecdE2 ectE2), eslE2⟩)
    (xc2 : PySem.W.codeIn K ecdE2 "NoEnd.__init__" = true)
    (xp2 : PySem.W.keepIn K (.ref ea2) = true)
    (xk2 : PySem.W.keepIn K (.ref E2) = true)
    (xe2 : PySem.W.subIn K (.ref E2) (.type "BaseException") = some true)
    (xy2 : PySem.W.typeIn K (.ref E2) = some (.type "type"))
    (xh2 : PySem.W.hasDictIn K E2 = true)
    (xf2 : PySem.W.subIn K (.ref E2) (.ref E2) = some true)
    (xq_0_2 : PySem.W.subIn K (.ref E2) (.ref E0) = some false)
    (xq_1_2 : PySem.W.subIn K (.ref E2) (.ref E1) = some false)
    (xq_3_2 : PySem.W.subIn K (.ref E2) (.ref E3) = some false)
    (xg2 : PySem.W.findIn K (.ref E2) "__getattribute__" = some (some (.builtin "BaseException.__getattribute__")))
    (xG2 : PySem.W.findIn K (.ref E2) "__getattr__" = some none)
    (xC2 : PySem.W.findIn K (.ref E2) "__class__" = some (some (.builtin "object.__class__")))
    (xm2 : PySem.W.mroIn K E2 (.type "object") = some true)
    (kx_0_2 : PySem.W.kitOne K (.ref E2) (.ref E0) = some false)
    (kx_2_2 : PySem.W.kitOne K (.ref E2) (.ref E2) = some true)
    (kx_1_2 : PySem.W.kitOne K (.ref E2) (.ref E1) = some false)
    (kx_3_2 : PySem.W.kitOne K (.ref E2) (.ref E3) = some false)
    (kt_ValueError_2 : PySem.W.kitOne K (.ref E2) (.type "ValueError") = some true)
    (xa3 : PySem.W.nsIn K mainGlobals "NoNumber" = some (some (.ref E3)))
    (xL3 : K.lookup E3 = some (excClassObj nmE3 qE3 E3 NE3 bsE3 [.type "ValueError", .type "Exception", .type "BaseException", .type "object"] true snE3 subE3 abE3 colE3 ddE3 m0E3 m1E3 m2E3 m3E3 m5E3 "ValueError.__new__"))
    (xs3 : PySem.W.findIn K (.ref E3) "__setattr__" = some (some (.builtin "object.__setattr__")))
    (xi3 : PySem.W.findIn K (.ref E3) "__init__" = some (some (.ref ea3)))
    (xt3 : PySem.W.typeIn K (.ref ea3) = some (.type "function"))
    (xl3 : K.lookup ea3 = some ⟨eocE3, eodE3, .func (PySem.W.fnOf "__init__" "NoNumber.__init__" (defArgs es3) (defBody es3) (defScope es3) .none ekVE3 edcE3 epmE3 eanE3 ecdE3 ectE3), eslE3⟩)
    (xc3 : PySem.W.codeIn K ecdE3 "NoNumber.__init__" = true)
    (xp3 : PySem.W.keepIn K (.ref ea3) = true)
    (xk3 : PySem.W.keepIn K (.ref E3) = true)
    (xe3 : PySem.W.subIn K (.ref E3) (.type "BaseException") = some true)
    (xy3 : PySem.W.typeIn K (.ref E3) = some (.type "type"))
    (xh3 : PySem.W.hasDictIn K E3 = true)
    (xf3 : PySem.W.subIn K (.ref E3) (.ref E3) = some true)
    (xq_0_3 : PySem.W.subIn K (.ref E3) (.ref E0) = some false)
    (xq_1_3 : PySem.W.subIn K (.ref E3) (.ref E1) = some false)
    (xq_2_3 : PySem.W.subIn K (.ref E3) (.ref E2) = some false)
    (xg3 : PySem.W.findIn K (.ref E3) "__getattribute__" = some (some (.builtin "BaseException.__getattribute__")))
    (xG3 : PySem.W.findIn K (.ref E3) "__getattr__" = some none)
    (xC3 : PySem.W.findIn K (.ref E3) "__class__" = some (some (.builtin "object.__class__")))
    (xm3 : PySem.W.mroIn K E3 (.type "object") = some true)
    (kx_0_3 : PySem.W.kitOne K (.ref E3) (.ref E0) = some false)
    (kx_2_3 : PySem.W.kitOne K (.ref E3) (.ref E2) = some false)
    (kx_1_3 : PySem.W.kitOne K (.ref E3) (.ref E1) = some false)
    (kx_3_3 : PySem.W.kitOne K (.ref E3) (.ref E3) = some true)
    (kt_ValueError_3 : PySem.W.kitOne K (.ref E3) (.type "ValueError") = some true)
    (xhn : PySem.W.specialIn K (.builtin "object.__class__") "__get__" = some (some (.builtin "getset_descriptor.__get__"))) (xht : PySem.W.takesIn K (.builtin "object.__class__") = some true)
    (vV : PySem.W.findCls K (.type "ValueError") (.type "type") "__init__" = some (.val (.builtin "ValueError.__init__")))
    (z_ValueError : PySem.W.nsIn K mainGlobals "ValueError" = some none)
    (z_abs : PySem.W.nsIn K mainGlobals "abs" = some none)
    (z_all : PySem.W.nsIn K mainGlobals "all" = some none)
    (z_any : PySem.W.nsIn K mainGlobals "any" = some none)
    (z_bool : PySem.W.nsIn K mainGlobals "bool" = some none)
    (z_enumerate : PySem.W.nsIn K mainGlobals "enumerate" = some none)
    (z_int : PySem.W.nsIn K mainGlobals "int" = some none)
    (z_isinstance : PySem.W.nsIn K mainGlobals "isinstance" = some none)
    (z_len : PySem.W.nsIn K mainGlobals "len" = some none)
    (z_max : PySem.W.nsIn K mainGlobals "max" = some none)
    (z_min : PySem.W.nsIn K mainGlobals "min" = some none)
    (z_range : PySem.W.nsIn K mainGlobals "range" = some none)
    (z_repr : PySem.W.nsIn K mainGlobals "repr" = some none)
    (z_sorted : PySem.W.nsIn K mainGlobals "sorted" = some none)
    (z_str : PySem.W.nsIn K mainGlobals "str" = some none)
    (z_tuple : PySem.W.nsIn K mainGlobals "tuple" = some none)
    {t_LETTERS : Tok} (g_LETTERS : PySem.W.nsIn K mainGlobals "LETTERS" = some (some (.str "abcdefghijklmnopqrstuvwxyz" t_LETTERS)))
    {t_MOST_ROOM : Tok} (g_MOST_ROOM : PySem.W.nsIn K mainGlobals "MOST_ROOM" = some (some (.int 400 t_MOST_ROOM)))
    : ∃ fd : FuncData, (∀ (s : Shared) (v : Value), BindsTo s fd ⟨[v], []⟩ [("_law_script", v)]) ∧ ∀ base : Heap, K.In base → base.Ns mainGlobals mg → Mi.FnOk l.prog w K mg base (L2.CX l.prog w) 7 fa fd ["_law_script"] (spL K) := by
  have e := hfa.symm.trans (PySem.W.mg_of X G x23)
  cases e
  have F0 := fun_mk (st := s0) l0 c0 k0
  have F1 := fun_mk (st := s1) l1 c1 k1
  have F2 := fun_mk (st := s2) l2 c2 k2
  have F3 := fun_mk (st := s3) l3 c3 k3
  have F4 := fun_mk (st := s4) l4 c4 k4
  have F5 := fun_mk (st := s5) l5 c5 k5
  have F6 := fun_mk (st := s6) l6 c6 k6
  have F7 := fun_mk (st := s7) l7 c7 k7
  have F8 := fun_mk (st := s8) l8 c8 k8
  have F9 := fun_mk (st := s9) l9 c9 k9
  have F10 := fun_mk (st := s10) l10 c10 k10
  have F11 := fun_mk (st := s11) l11 c11 k11
  have F12 := fun_mk (st := s12) l12 c12 k12
  have F13 := fun_mk (st := s13) l13 c13 k13
  have F14 := fun_mk (st := s14) l14 c14 k14
  have F15 := fun_mk (st := s15) l15 c15 k15
  have F16 := fun_mk (st := s16) l16 c16 k16
  have F17 := fun_mk (st := s17) l17 c17 k17
  have F18 := fun_mk (st := s18) l18 c18 k18
  have F19 := fun_mk (st := s19) l19 c19 k19
  have F20 := fun_mk (st := s20) l20 c20 k20
  have F21 := fun_mk (st := s21) l21 c21 k21
  have F22 := fun_mk (st := s22) l22 c22 k22
  have F23 := fun_mk (st := s23) l23 c23 k23
  have FE0 := fun_mk (st := es0) xl0 xc0 xp0
  have FE1 := fun_mk (st := es1) xl1 xc1 xp1
  have FE2 := fun_mk (st := es2) xl2 xc2 xp2
  have FE3 := fun_mk (st := es3) xl3 xc3 xp3
  have T : Txt K mg _ _ _ _ _ _ _ _ _ _ _ _ _ _ _ _ _ _ _ _ _ _ _ _ _ _ _ _ _ _ _ _ _ _ _ _ _ _ _ _ _ _ _ _ _ _ _ _ _ _ _ _ _ _ _ _ _ _ _ _ _ := {
    F0 := F0
    m0 := PySem.W.mg_of X G x0
    k0 := k0
    b0 := F0.binds (ps := ["thing"]) fun _ _ _ _ _ _ us hl => match us, hl with | [_], _ => rfl
    F1 := F1
    m1 := PySem.W.mg_of X G x1
    k1 := k1
    b1 := F1.binds (ps := ["thing"]) fun _ _ _ _ _ _ us hl => match us, hl with | [_], _ => rfl
    F2 := F2
    mk0 := ⟨mK0, x2, i2, kc0⟩
    k2 := k2
    b2 := F2.binds (ps := ["self", "room"]) fun _ _ _ _ _ _ us hl => match us, hl with | [_, _], _ => rfl
    F3 := F3
    me3 := ⟨x3, i3, k3⟩
    k3 := k3
    b3 := F3.binds (ps := ["self"]) fun _ _ _ _ _ _ us hl => match us, hl with | [_], _ => rfl
    F4 := F4
    me4 := ⟨x4, i4, k4⟩
    k4 := k4
    b4 := F4.binds (ps := ["self", "number"]) fun _ _ _ _ _ _ us hl => match us, hl with | [_, _], _ => rfl
    F5 := F5
    m5 := PySem.W.mg_of X G x5
    k5 := k5
    b5 := F5.binds (ps := ["thing", "least"]) fun _ _ _ _ _ _ us hl => match us, hl with | [_, _], _ => rfl
    F6 := F6
    m6 := PySem.W.mg_of X G x6
    k6 := k6
    b6 := F6.binds (ps := ["thing"]) fun _ _ _ _ _ _ us hl => match us, hl with | [_], _ => rfl
    F7 := F7
    m7 := PySem.W.mg_of X G x7
    k7 := k7
    b7 := F7.binds (ps := ["thing"]) fun _ _ _ _ _ _ us hl => match us, hl with | [_], _ => rfl
    F8 := F8
    me8 := ⟨x8, i8, k8⟩
    k8 := k8
    b8 := F8.binds (ps := ["self", "piece"]) fun _ _ _ _ _ _ us hl => match us, hl with | [_, _], _ => rfl
    F9 := F9
    m9 := PySem.W.mg_of X G x9
    k9 := k9
    b9 := F9.binds (ps := ["pieces"]) fun _ _ _ _ _ _ us hl => match us, hl with | [_], _ => rfl
    F10 := F10
    me10 := ⟨x10, i10, k10⟩
    k10 := k10
    b10 := F10.binds (ps := ["self"]) fun _ _ _ _ _ _ us hl => match us, hl with | [_], _ => rfl
    F11 := F11
    me11 := ⟨x11, i11, k11⟩
    k11 := k11
    b11 := F11.binds (ps := ["self"]) fun _ _ _ _ _ _ us hl => match us, hl with | [_], _ => rfl
    F12 := F12
    me12 := ⟨x12, i12, k12⟩
    k12 := k12
    b12 := F12.binds (ps := ["self"]) fun _ _ _ _ _ _ us hl => match us, hl with | [_], _ => rfl
    F13 := F13
    me13 := ⟨x13, i13, k13⟩
    k13 := k13
    b13 := F13.binds (ps := ["self"]) fun _ _ _ _ _ _ us hl => match us, hl with | [_], _ => rfl
    F14 := F14
    me14 := ⟨x14, i14, k14⟩
    k14 := k14
    b14 := F14.binds (ps := ["self"]) fun _ _ _ _ _ _ us hl => match us, hl with | [_], _ => rfl
    F15 := F15
    me15 := ⟨x15, i15, k15⟩
    k15 := k15
    b15 := F15.binds (ps := ["self"]) fun _ _ _ _ _ _ us hl => match us, hl with | [_], _ => rfl
    F16 := F16
    m16 := PySem.W.mg_of X G x16
    k16 := k16
    b16 := F16.binds (ps := ["_law_box"]) fun _ _ _ _ _ _ us hl => match us, hl with | [_], _ => rfl
    F17 := F17
    m17 := PySem.W.mg_of X G x17
    k17 := k17
    b17 := F17.binds (ps := ["_law_script", "_law_k"]) fun _ _ _ _ _ _ us hl => match us, hl with | [_, _], _ => rfl
    F18 := F18
    me18 := ⟨x18, i18, k18⟩
    k18 := k18
    b18 := F18.binds (ps := ["self", "at"]) fun _ _ _ _ _ _ us hl => match us, hl with | [_, _], _ => rfl
    F19 := F19
    me19 := ⟨x19, i19, k19⟩
    k19 := k19
    b19 := F19.binds (ps := ["self", "many"]) fun _ _ _ _ _ _ us hl => match us, hl with | [_, _], _ => rfl
    F20 := F20
    m20 := PySem.W.mg_of X G x20
    k20 := k20
    b20 := F20.binds (ps := ["_law_box", "_law_door", "_law_item"]) fun _ _ _ _ _ _ us hl => match us, hl with | [_, _, _], _ => rfl
    F21 := F21
    m21 := PySem.W.mg_of X G x21
    k21 := k21
    b21 := F21.binds (ps := ["_law_pool_here", "_law_many"]) fun _ _ _ _ _ _ us hl => match us, hl with | [_, _], _ => rfl
    F22 := F22
    m22 := PySem.W.mg_of X G x22
    k22 := k22
    b22 := F22.binds (ps := ["_law_pool_here", "_law_many"]) fun _ _ _ _ _ _ us hl => match us, hl with | [_, _], _ => rfl
    F23 := F23
    m23 := PySem.W.mg_of X G x23
    k23 := k23
    b23 := F23.binds (ps := ["_law_script"]) fun _ _ _ _ _ _ us hl => match us, hl with | [_], _ => rfl
    cl0 := ⟨pg0, hd0, po0, sa0⟩
    mc0 := PySem.W.mg_of X G aC0
    na0_0 := na0_0
    na0_1 := na0_1
    na0_2 := na0_2
    na0_3 := na0_3
    na0_4 := na0_4
    em0 := PySem.W.mg_of X G xa0
    oe0 := ⟨⟨_, _, _, _, _, _, _, _, _, _, _, _, _, _, _, xL0, by decide +kernel⟩, xs0, xe0, xy0, xk0⟩
    oi0 := xi0
    ot0 := xt0
    oF0 := FE0
    ob0 := FE0.binds (ps := ["self"]) fun _ _ _ _ _ _ us hl => match us, hl with | [_], _ => rfl
    ix0 := ⟨fun c b h => by unfold km0 at h; (by_cases z : c = 0; · subst z; simp at h; subst h; exact ⟨⟨xg0, xG0, xe0, xh0, xC0, xhn, xht, xm0⟩, kx_0_0⟩); (by_cases z : c = 1; · subst z; simp at h; subst h; exact ⟨⟨xg1, xG1, xe1, xh1, xC1, xhn, xht, xm1⟩, kx_0_1⟩); (by_cases z : c = 2; · subst z; simp at h; subst h; exact ⟨⟨xg2, xG2, xe2, xh2, xC2, xhn, xht, xm2⟩, kx_0_2⟩); (by_cases z : c = 3; · subst z; simp at h; subst h; exact ⟨⟨xg3, xG3, xe3, xh3, xC3, xhn, xht, xm3⟩, kx_0_3⟩); simp_all⟩
    em1 := PySem.W.mg_of X G xa1
    oe1 := ⟨⟨_, _, _, _, _, _, _, _, _, _, _, _, _, _, _, xL1, by decide +kernel⟩, xs1, xe1, xy1, xk1⟩
    oi1 := xi1
    ot1 := xt1
    oF1 := FE1
    ob1 := FE1.binds (ps := ["self"]) fun _ _ _ _ _ _ us hl => match us, hl with | [_], _ => rfl
    ix1 := ⟨fun c b h => by unfold km1 at h; (by_cases z : c = 0; · subst z; simp at h; subst h; exact ⟨⟨xg0, xG0, xe0, xh0, xC0, xhn, xht, xm0⟩, kx_1_0⟩); (by_cases z : c = 1; · subst z; simp at h; subst h; exact ⟨⟨xg1, xG1, xe1, xh1, xC1, xhn, xht, xm1⟩, kx_1_1⟩); (by_cases z : c = 2; · subst z; simp at h; subst h; exact ⟨⟨xg2, xG2, xe2, xh2, xC2, xhn, xht, xm2⟩, kx_1_2⟩); (by_cases z : c = 3; · subst z; simp at h; subst h; exact ⟨⟨xg3, xG3, xe3, xh3, xC3, xhn, xht, xm3⟩, kx_1_3⟩); simp_all⟩
    em2 := PySem.W.mg_of X G xa2
    oe2 := ⟨⟨_, _, _, _, _, _, _, _, _, _, _, _, _, _, _, xL2, by decide +kernel⟩, xs2, xe2, xy2, xk2⟩
    oi2 := xi2
    ot2 := xt2
    oF2 := FE2
    ob2 := FE2.binds (ps := ["self"]) fun _ _ _ _ _ _ us hl => match us, hl with | [_], _ => rfl
    ix2 := ⟨fun c b h => by unfold km2 at h; (by_cases z : c = 0; · subst z; simp at h; subst h; exact ⟨⟨xg0, xG0, xe0, xh0, xC0, xhn, xht, xm0⟩, kx_2_0⟩); (by_cases z : c = 1; · subst z; simp at h; subst h; exact ⟨⟨xg1, xG1, xe1, xh1, xC1, xhn, xht, xm1⟩, kx_2_1⟩); (by_cases z : c = 2; · subst z; simp at h; subst h; exact ⟨⟨xg2, xG2, xe2, xh2, xC2, xhn, xht, xm2⟩, kx_2_2⟩); (by_cases z : c = 3; · subst z; simp at h; subst h; exact ⟨⟨xg3, xG3, xe3, xh3, xC3, xhn, xht, xm3⟩, kx_2_3⟩); simp_all⟩
    em3 := PySem.W.mg_of X G xa3
    oe3 := ⟨⟨_, _, _, _, _, _, _, _, _, _, _, _, _, _, _, xL3, by decide +kernel⟩, xs3, xe3, xy3, xk3⟩
    oi3 := xi3
    ot3 := xt3
    oF3 := FE3
    ob3 := FE3.binds (ps := ["self"]) fun _ _ _ _ _ _ us hl => match us, hl with | [_], _ => rfl
    ix3 := ⟨fun c b h => by unfold km3 at h; (by_cases z : c = 0; · subst z; simp at h; subst h; exact ⟨⟨xg0, xG0, xe0, xh0, xC0, xhn, xht, xm0⟩, kx_3_0⟩); (by_cases z : c = 1; · subst z; simp at h; subst h; exact ⟨⟨xg1, xG1, xe1, xh1, xC1, xhn, xht, xm1⟩, kx_3_1⟩); (by_cases z : c = 2; · subst z; simp at h; subst h; exact ⟨⟨xg2, xG2, xe2, xh2, xC2, xhn, xht, xm2⟩, kx_3_2⟩); (by_cases z : c = 3; · subst z; simp at h; subst h; exact ⟨⟨xg3, xG3, xe3, xh3, xC3, xhn, xht, xm3⟩, kx_3_3⟩); simp_all⟩
    xct0132 := fun c b h => by unfold ct0132 at h; (by_cases z : c = 0; · subst z; simp at h; subst h; exact exmAny_two (PySem.W.exm_ref xe0 xh0 xy0 xf0) (exmAny_two (PySem.W.exm_ref xe1 xh1 xy1 xq_1_0) (exmAny_two (PySem.W.exm_ref xe3 xh3 xy3 xq_3_0) (exmAny_two (PySem.W.exm_ref xe2 xh2 xy2 xq_2_0) (rfl))))); (by_cases z : c = 1; · subst z; simp at h; subst h; exact exmAny_two (PySem.W.exm_ref xe0 xh0 xy0 xq_0_1) (exmAny_two (PySem.W.exm_ref xe1 xh1 xy1 xf1) (exmAny_two (PySem.W.exm_ref xe3 xh3 xy3 xq_3_1) (exmAny_two (PySem.W.exm_ref xe2 xh2 xy2 xq_2_1) (rfl))))); (by_cases z : c = 3; · subst z; simp at h; subst h; exact exmAny_two (PySem.W.exm_ref xe0 xh0 xy0 xq_0_3) (exmAny_two (PySem.W.exm_ref xe1 xh1 xy1 xq_1_3) (exmAny_two (PySem.W.exm_ref xe3 xh3 xy3 xf3) (exmAny_two (PySem.W.exm_ref xe2 xh2 xy2 xq_2_3) (rfl))))); (by_cases z : c = 2; · subst z; simp at h; subst h; exact exmAny_two (PySem.W.exm_ref xe0 xh0 xy0 xq_0_2) (exmAny_two (PySem.W.exm_ref xe1 xh1 xy1 xq_1_2) (exmAny_two (PySem.W.exm_ref xe3 xh3 xy3 xq_3_2) (exmAny_two (PySem.W.exm_ref xe2 xh2 xy2 xf2) (rfl))))); simp_all
    ib_ValueError := ⟨fun c b h => by unfold kb_ValueError at h; (by_cases z : c = 0; · subst z; simp at h; subst h; exact ⟨⟨xg0, xG0, xe0, xh0, xC0, xhn, xht, xm0⟩, kt_ValueError_0⟩); (by_cases z : c = 1; · subst z; simp at h; subst h; exact ⟨⟨xg1, xG1, xe1, xh1, xC1, xhn, xht, xm1⟩, kt_ValueError_1⟩); (by_cases z : c = 2; · subst z; simp at h; subst h; exact ⟨⟨xg2, xG2, xe2, xh2, xC2, xhn, xht, xm2⟩, kt_ValueError_2⟩); (by_cases z : c = 3; · subst z; simp at h; subst h; exact ⟨⟨xg3, xG3, xe3, xh3, xC3, xhn, xht, xm3⟩, kt_ValueError_3⟩); simp_all⟩
    vV := vV
    z_ValueError := PySem.W.mg_none_of X G z_ValueError
    z_abs := PySem.W.mg_none_of X G z_abs
    z_all := PySem.W.mg_none_of X G z_all
    z_any := PySem.W.mg_none_of X G z_any
    z_bool := PySem.W.mg_none_of X G z_bool
    z_enumerate := PySem.W.mg_none_of X G z_enumerate
    z_int := PySem.W.mg_none_of X G z_int
    z_isinstance := PySem.W.mg_none_of X G z_isinstance
    z_len := PySem.W.mg_none_of X G z_len
    z_max := PySem.W.mg_none_of X G z_max
    z_min := PySem.W.mg_none_of X G z_min
    z_range := PySem.W.mg_none_of X G z_range
    z_repr := PySem.W.mg_none_of X G z_repr
    z_sorted := PySem.W.mg_none_of X G z_sorted
    z_str := PySem.W.mg_none_of X G z_str
    z_tuple := PySem.W.mg_none_of X G z_tuple
    g_LETTERS := ⟨_, PySem.W.mg_of X G g_LETTERS⟩
    g_MOST_ROOM := ⟨_, PySem.W.mg_of X G g_MOST_ROOM⟩
  }
  exact ⟨_, fun s v => .of_eq rfl, fun base _ _ => (ok23 T).imp fun vs H Q E h => h _ _ _ _ _⟩
end L_k09
set_option Elab.async false
set_option linter.all false
set_option maxRecDepth 100000
set_option maxHeartbeats 4000000
namespace L_k09
open PySem PySem.Spec PyProof.Rows L2 Mi
/-! pools and signs -/
theorem r17_ok (ns : List Int) (hn : ns.length ≤ 63) (k : Int) (hp : List MO) : ∃ p : Int × Int, OkP p ∧ r17 [.lst (ns.map .int), .int k] hp = .ok (.own (.lst [.int p.1, .int p.2])) hp := by
  obtain ⟨c, hc⟩ := at0 (cutM ns (some k) (some (k + 1)))
  have hl : (cutM ns (some k) (some (k + 1))).length + 1 ≤ sizeLine := by
    have := cut_len ns (some k) (some (k + 1))
    exact Nat.le_trans (by omega : _ ≤ 64) (by decide)
  have h2 : 2 ≤ sizeLine := by decide
  have h1 : 1 ≤ sizeLine := by decide
  generalize hd : (if c < 0 then -c else c) = d
  have hd0 : 0 ≤ d := by subst hd; split <;> omega
  by_cases hg : (1000000000000000000 : Int) ≤ d
  · have : ∃ A B : Int, 0 ≤ A ∧ 0 ≤ B ∧ B < 2147483647 ∧ r17 [.lst (ns.map .int), .int k] hp = .ok (.own (.lst [.int A, .int B])) hp :=
      ⟨d, (d % 2147483579 + 5923 * k + 61) * 48271 % 2147483647, by omega, by omega, by omega, by unfold r17 b17 runOf env0; simp [hc, hl, h2, h1, cut_map, CPow, CMul.r, CMul.l, hd, hg]⟩
    obtain ⟨A, B, a, b, c, e⟩ := this
    exact ⟨(A, B), ⟨a, b, c⟩, e⟩
  · have : ∃ A B : Int, 0 ≤ A ∧ 0 ≤ B ∧ B < 2147483647 ∧ r17 [.lst (ns.map .int), .int k] hp = .ok (.own (.lst [.int A, .int B])) hp :=
      ⟨0, (d % 2147483579 + 5923 * k + 61) * 48271 % 2147483647, by omega, by omega, by omega, by unfold r17 b17 runOf env0; simp [hc, hl, h2, h1, cut_map, CPow, CMul.r, CMul.l, hd, hg]⟩
    obtain ⟨A, B, a, b, c, e⟩ := this
    exact ⟨(A, B), ⟨a, b, c⟩, e⟩
theorem r21_ok (p : Int × Int) (P : OkP p) (m : Int) (h1 : 1 ≤ m) (h2 : m < 1073741824) :
    ∃ (v : Int) (p' : Int × Int), 0 ≤ v ∧ v < m ∧ OkP p' ∧ ∀ (hp : List MO) (n : Nat), hp[n]? = some (PB p) → r21 [.ref n, .int m] hp = .ok (.v (.int v)) (hp.set n (PB p')) :=
  take_all 40014 7919 32 (by decide) (by decide) (by decide) (by decide) (by decide) p P m h1 h2
theorem five (v : Int) (h0 : 0 ≤ v) (h5 : v < 5) : ∃ c : Nat, atI [97, 98, 99, 121, 122] v = some c ∧ 97 ≤ c ∧ c ≤ 122 := by
  have : v = 0 ∨ v = 1 ∨ v = 2 ∨ v = 3 ∨ v = 4 := by omega
  rcases this with rfl | rfl | rfl | rfl | rfl <;> exact ⟨_, rfl, by decide, by decide⟩
theorem signs_go : ∀ (l : List Nat) (p : Int × Int), OkP p → ∃ (z : List Nat) (p' : Int × Int), OkP p' ∧ Low z ∧ z.length = l.length ∧
    ∀ (n b : Nat) (x1 : Option SV) (hp : List MO) (acc : List MV), hp[n]? = some (PB p) → acc.length + l.length ≤ sizeLine → lcGo [2] (fun _ => True) (gN 2) mYes (mBin opIxA (mC (.str [97, 98, 99, 121, 122])) (mCall r21 2 (mConsS (mVar 0) (mConsS (mC (.int 5)) (fun s => .ok [] s))))) (l.map fun i : Nat => .int i) acc ⟨[some (.v (.ref n)), x1, none], hp, b⟩ =
      .ok (acc ++ z.map fun c => .str [c]) ⟨[some (.v (.ref n)), x1, none], hp.set n (PB p'), b⟩
  | [], p, P => ⟨[], p, P, fun c h => (by cases h), rfl, fun n b x1 hp acc h _ => by unfold lcGo; simp [set_same h]⟩
  | i :: l, p, P => by
    obtain ⟨v, p1, v0, v1, P1, e1⟩ := r21_ok p P 5 (by decide) (by decide)
    obtain ⟨c, hc, c1, c2⟩ := five v v0 v1
    obtain ⟨z, p2, P2, lz, hz, e2⟩ := signs_go l p1 P1
    refine ⟨c :: z, p2, P2, fun d hd => ?_, by simp [hz], fun n b x1 hp acc h hl => ?_⟩
    · rcases List.mem_cons.mp hd with rfl | q
      · exact ⟨c1, c2⟩
      · exact lz d q
    · simp only [List.length_cons] at hl
      have := e2 n b x1 (hp.set n (PB p1)) (acc ++ [.str [c]]) (set_at h) (by simp; omega)
      have hl2 : acc.length < sizeLine := by omega
      have s5 : 5 ≤ sizeLine := by decide
      rw [List.map_cons]
      unfold lcGo
      simp [e_mRun, e1 _ _ h, hc, mYes, mSh, wipeM, hl2, s5]
      simpa using this
theorem r22_ok (p : Int × Int) (P : OkP p) (m : Int) (h0 : 0 ≤ m) (h1 : m ≤ 1000) : ∃ (z : List Nat) (p' : Int × Int), OkP p' ∧ Low z ∧ z.length = m.toNat ∧
    ∀ (hp : List MO) (n : Nat), hp[n]? = some (PB p) → r22 [.ref n, .int m] hp = .ok (.v (.str z)) (hp.set n (PB p')) := by
  obtain ⟨z, p', P', lz, hz, e⟩ := signs_go (List.range m.toNat) p P
  refine ⟨z, p', P', lz, by simpa using hz, fun hp n h => ?_⟩
  have := e n hp.length (some (.v (.int m))) hp [] h (line1000 (by simp; omega))
  have hb : -4611686018427387904 ≤ m ∧ m < 4611686018427387904 := by omega
  have hs : z.length ≤ 16777216 := by simp at hz; omega
  unfold r22 b22 runOf env0
  simp [e_Lc, hb, wipeM, this, backEnv, e_joinO (strs_map (fun c => [c]) z), join_signs]
  rw [if_pos (by have := lens_signs z; simp [Function.comp_def] at *; omega)]
  rfl

/-! joined and runs -/
theorem inner6 (a : Int) (x0 x3 x6 x7 : Option SV) (hp : List MO) (b : Nat) : ∀ (z : List Nat) (m : Nat) (x4 x5 : Option SV) (kvs : List (MV × MV)) (f : KF) (ks : List Int), Dk kvs f ks → ks.length + z.length < 1000000 →
    ∃ y4 y5 kvs', forGo (fun _ => True) (gT 2 (gsCons (gN 4) (gsCons (gN 5) gsNil))) b9f0 ((z.zipIdx m).map fun p => .tup [.int (0 + (p.2 : Nat)), .str [p.1]]) ⟨[x0, some (.own (.dict kvs)), some (.v (.int a)), x3, x4, x5, x6, x7], hp, b⟩ =
      .ok .next ⟨[x0, some (.own (.dict kvs')), some (.v (.int a)), x3, y4, y5, x6, x7], hp, b⟩ ∧ Dk kvs' (putZ f (a + m) z) (keysZ ks (a + m) z)
  | [], m, x4, x5, kvs, f, ks, h, _ => ⟨x4, x5, kvs, by simp [forGo], h⟩
  | c :: z, m, x4, x5, kvs, f, ks, h, hz => by
    simp only [List.length_cons] at hz
    have hl : kvs.length < sizeLine := by rw [h.len]; exact Nat.lt_of_lt_of_le (by omega : ks.length < 1000000) (by decide)
    have hs : ∀ kvs', kvs' = dput kvs (a + m) c → b9f0 ⟨[x0, some (.own (.dict kvs)), some (.v (.int a)), x3, some (.v (.int m)), some (.v (.str [c])), x6, x7], hp, b⟩ = .ok .next ⟨[x0, some (.own (.dict kvs')), some (.v (.int a)), x3, some (.v (.int m)), some (.v (.str [c])), x6, x7], hp, b⟩ := fun kvs' e => by
      subst e
      unfold b9f0 dput
      cases q : getK kvs (.int (a + m)) with
      | none => simp [mSetd, dictOf, cont, place, putC, hl, q]
      | some y => simp [mSetd, dictOf, cont, place, putC, hl, q]
    have h2 : (addK ks (a + m)).length ≤ ks.length + 1 := by unfold addK; split <;> simp
    obtain ⟨y4, y5, kvs', e2, hD⟩ := inner6 a x0 x3 x6 x7 hp b z (m + 1) (some (.v (.int m))) (some (.v (.str [c]))) _ _ _ (h.put (a + m) c) (by omega)
    refine ⟨y4, y5, kvs', ?_, ?_⟩
    · rw [List.zipIdx_cons, List.map_cons]
      unfold forGo
      simp [hs _ rfl]
      simpa using e2
    · have e3 : a + ((m + 1 : Nat) : Int) = a + (m : Int) + 1 := by omega
      rw [e3] at hD
      exact hD
theorem outer6 (x0 x6 x7 : Option SV) (hp : List MO) (b : Nat) : ∀ (P : List Pc) (x2 x3 x4 x5 : Option SV) (kvs : List (MV × MV)) (f : KF) (ks : List Int), Dk kvs f ks → (∀ p ∈ P, p.2.length ≤ 100) → ks.length + 100 * P.length < 1000000 →
    ∃ y2 y3 y4 y5 kvs', forGo (fun _ => True) (gT 2 (gsCons (gN 2) (gsCons (gN 3) gsNil))) b9f1 (P.map mvP) ⟨[x0, some (.own (.dict kvs)), x2, x3, x4, x5, x6, x7], hp, b⟩ =
      .ok .next ⟨[x0, some (.own (.dict kvs')), y2, y3, y4, y5, x6, x7], hp, b⟩ ∧ Dk kvs' (putP f P) (keysP ks P)
  | [], x2, x3, x4, x5, kvs, f, ks, h, _, _ => ⟨x2, x3, x4, x5, kvs, by simp [forGo], h⟩
  | (a, z) :: P, x2, x3, x4, x5, kvs, f, ks, h, hP, hz => by
    simp only [List.length_cons] at hz
    have hzl : z.length ≤ 100 := hP (a, z) (List.mem_cons_self ..)
    obtain ⟨y4, y5, kvs1, e1, h1⟩ := inner6 a x0 (some (.v (.str z))) x6 x7 hp b z 0 x4 x5 kvs f ks h (by omega)
    rw [show a + ((0 : Nat) : Int) = a by omega] at h1
    have hk := keysZ_len z ks a
    obtain ⟨y2, y3, z4, z5, kvs', e2, h2⟩ := outer6 x0 x6 x7 hp b P (some (.v (.int a))) (some (.v (.str z))) y4 y5 kvs1 _ _ h1 (fun p hp => hP p (List.mem_cons_of_mem _ hp)) (by omega)
    refine ⟨y2, y3, z4, z5, kvs', ?_, h2⟩
    have hs : z.length ≤ sizeLine := line1000 (by omega)
    have hen := enum_map 0 (fun c => MV.str [c]) z
    have step : b9f1 ⟨[x0, some (.own (.dict kvs)), some (.v (.int a)), some (.v (.str z)), x4, x5, x6, x7], hp, b⟩ = .ok .next ⟨[x0, some (.own (.dict kvs1)), some (.v (.int a)), some (.v (.str z)), y4, y5, x6, x7], hp, b⟩ := by
      unfold b9f1
      simp [e_For, hen] at e1 ⊢
      exact e1
    rw [List.map_cons]
    unfold forGo
    simp [mvP, step]
    exact e2

theorem runs6 (kvs : List (MV × MV)) (f : KF) (ks : List Int) (hD : Dk kvs f ks) (hks : ks.length < 60000) (x0 x4 x5 : Option SV) (hp : List MO) (b : Nat) : ∀ (rest dn : List Int) (acc : List Pc) (x2 x3 x7 : Option SV), dn ++ rest = srtI ks → RI acc dn →
    ∃ y2 y3 y7, forGo (fun _ => True) (gN 7) b9f2 (rest.map MV.int) ⟨[x0, some (.own (.dict kvs)), x2, x3, x4, x5, some (.own (.lst (acc.map mvP))), x7], hp, b⟩ =
      .ok .next ⟨[x0, some (.own (.dict kvs)), y2, y3, x4, x5, some (.own (.lst ((rest.foldl (stepR f) acc).map mvP))), y7], hp, b⟩
  | [], dn, acc, x2, x3, x7, e, h => ⟨x2, x3, x7, by simp [forGo]⟩
  | k :: rest, dn, acc, x2, x3, x7, e, h => by
    have hkm : k ∈ ks := by
      have : k ∈ srtI ks := by rw [← e]; simp
      exact (srtI_perm ks).mem_iff.mp this
    obtain ⟨c, hc⟩ := Option.isSome_iff_exists.mp ((hD.mem k).mp hkm)
    have hdl : dn.length < 60000 := by
      have h1 := congrArg List.length e
      have h2 := (srtI_perm ks).length_eq
      simp at h1; omega
    have hne : (f (k - 1)).isSome = true → acc ≠ [] := fun q z => before e ((hD.mem _).mpr q) (h.ne z)
    have gk : getK kvs (.int k) = some (.str [c]) := by rw [hD.get, hc]; rfl
    have sz : ∀ n, n ≤ 200000 → n < sizeLine := fun n hn => Nat.lt_of_le_of_lt hn (by decide)
    have sz2 : ∀ n, n ≤ 200000 → n ≤ sizeLine := fun n hn => Nat.le_of_lt (sz n hn)
    have stp : ∃ y2 y3, b9f2 ⟨[x0, some (.own (.dict kvs)), x2, x3, x4, x5, some (.own (.lst (acc.map mvP))), some (.v (.int k))], hp, b⟩ = .ok .next ⟨[x0, some (.own (.dict kvs)), y2, y3, x4, x5, some (.own (.lst ((stepR f acc k).map mvP))), some (.v (.int k))], hp, b⟩ := by
      unfold stepR
      cases q : f (k - 1) with
      | none =>
        have g0 : getK kvs (.int (k - 1)) = none := by rw [hD.get, q]; rfl
        have l1 := sz acc.length (by have := h.len; omega)
        have l2 := sz2 2 (by decide)
        refine ⟨x2, x3, ?_⟩
        unfold b9f2
        simp [opInA, opIxA, dictOf, cont, g0, gk, mLM, lAppend, place, putC, l1, l2, sg, hc, mvP]
      | some d =>
        have g0 : getK kvs (.int (k - 1)) = some (.str [d]) := by rw [hD.get, q]; rfl
        rcases last_cases acc with z | ⟨A, p, z⟩
        · exact absurd z (hne (by rw [q]; rfl))
        · subst z
          obtain ⟨pa, pz⟩ := p
          have l1 := sz A.length (by have := h.len; simp at this; omega)
          have l2 := sz2 2 (by decide)
          have l3 := sz2 (pz.length + 1) (by have := h.txt (pa, pz) (by simp); simp at this; omega)
          refine ⟨some (.v (.int pa)), some (.v (.str pz)), ?_⟩
          unfold b9f2
          simp [opInA, opIxA, dictOf, cont, g0, gk, mLM, lAppend, lPop, place, putC, l1, l2, l3, sg, hc, mvP]
    obtain ⟨y2, y3, e1⟩ := stp
    obtain ⟨z2, z3, z7, e2⟩ := runs6 kvs f ks hD hks x0 x4 x5 hp b rest (dn ++ [k]) (stepR f acc k) y2 y3 (some (.v (.int k))) (by rw [← e]; simp) (h.step hne)
    refine ⟨z2, z3, z7, ?_⟩
    rw [List.map_cons]
    unfold forGo
    simp [e1]
    exact e2
theorem r9_ok (P : List Pc) (h1 : ∀ p ∈ P, p.2.length ≤ 100) (h2 : P.length ≤ 9000) (h3 : (keysP [] P).length < 60000) (hp : List MO) : r9 [.lst (P.map mvP)] hp = .ok (.own (.lst ((runsP (putP (fun _ => none) P) (keysP [] P)).map mvP))) hp := by
  obtain ⟨y2, y3, y4, y5, kvs, e1, hD⟩ := outer6 (some (.v (.lst (P.map mvP)))) none none hp hp.length P none none none none [] _ _ Dk.nil h1 (by simp; omega)
  obtain ⟨z2, z3, z7, e2⟩ := runs6 kvs _ _ hD h3 (some (.v (.lst (P.map mvP)))) y4 y5 hp hp.length (srtI (keysP [] P)) [] [] y2 y3 none rfl ⟨fun _ => rfl, Nat.le_refl _, fun p h => by cases h⟩
  have hk : intsOf (kvs.map (·.1)) = some (keysP [] P) := by
    rw [hD.keys]
    have := ints_map (fun i : Int => i) (keysP [] P)
    simpa using this
  have hk' : intsOf (List.map (fun x => x.fst) kvs) = some (keysP [] P) := hk
  unfold r9 b9 runOf env0
  simp [e_For, e_Mt, e1, pSorted, dictOf, cont, hk', h3]
  rw [show ([] : List MV) = ([] : List Pc).map mvP from rfl, e2]
  simp [runsP]
/-! the joiner -/
abbrev Jn (room : Int) (L : KL) (rd kn : Int) (en : MV) : MO := .inst 0 [some (.v (.int room)), some (.own (.dict (KD L))), some (.v (.int rd)), some (.v (.int kn)), some (.v en)]
theorem r0_ok (i : Int) (hp : List MO) : r0 [.int i] hp = .ok (.v (.bl true)) hp := by
  unfold r0 b0 runOf env0; simp
theorem r5_ok (i j : Int) (hp : List MO) : r5 [.int i, .int j] hp = .ok (.v (.bl (decide (j ≤ i)))) hp := by
  unfold r5 b5 runOf env0; simp [e_mRun, r0_ok]
theorem r1_ok (m : Int) (h1 : 1 ≤ m) (h2 : m ≤ 400) (hp : List MO) : r1 [.int m] hp = .ok (.v .non) hp := by
  unfold r1 b1 runOf env0; simp [e_mRun, r0_ok, h1, h2]
theorem r2_ok (m : Int) (h1 : 1 ≤ m) (h2 : m ≤ 400) (hp : List MO) : r2 [.ref hp.length, .int m] (hp ++ [.inst 0 [none, none, none, none, none]]) = .ok (.v .non) (hp ++ [Jn m [] 0 0 .non]) := by
  unfold r2 b2 runOf env0; simp [e_mRun, r1_ok, h1, h2]
theorem r6_ok (z : List Nat) (hz : z.length ≤ 1000000) (hl : Low z) (hp : List MO) : r6 [.str z] hp = .ok (.v (.bl true)) hp := by
  have key := lcGo_map (vs := [1]) (chk := fun _ => True) (tg := gN 1) (te := mBin (opInA false) (mVar 1) (mC (.str ABC)))
    (fun c : Nat => .str [c]) (fun c => .bl true) ⟨[some (.v (.str z)), none], hp, hp.length⟩ trivial z [] (by rw [szl]; simp; omega) (fun c hc => by
      have := hl c hc
      refine ⟨_, _, rfl, by simp [mSh, in_ABC]; exact ⟨this, rfl⟩, by simp [wipeM]⟩)
  have hall : ∀ s, pAll (·.all id) [.own (.lst (z.map fun c => MV.bl true))] s = .ok (.v (.bl true)) s := fun s => by
    have := e_allO (fun _ => true) z s
    rw [show (z.all fun x => true) = true by simp] at this
    exact this
  unfold r6 b6 runOf env0
  simp [e_Lc, e_Mt, wipeM] at key ⊢
  simp [key, backEnv, hall]
theorem r7_ok (a : Int) (z : List Nat) (ha : 0 ≤ a) (hn : z ≠ []) (hz : z.length ≤ 1000000) (hl : Low z) (hp : List MO) : r7 [.tup [.int a, .str z]] hp = .ok (.v (.bl true)) hp := by
  have e1 : ∀ s, opEqv true (.v (.str z)) (.v (.str [])) s = .ok (.v (.bl (true ^^ decide (z = [])))) s := fun s => e_eqS (low_text hl) rfl
  have i0 : ∀ x y : MV, atI [x, y] 0 = some x := fun _ _ => rfl
  have i1 : ∀ x y : MV, atI [x, y] 1 = some y := fun _ _ => rfl
  unfold r7 b7 runOf env0
  simp [e_mRun, r5_ok, r6_ok z hz hl, ha, e1, hn, i0, i1]
section
variable {hp : List MO} {J : Nat} {room rd kn : Int} {L : KL} {en : MV}
theorem r14_ok (h : hp[J]? = some (Jn room L rd kn en)) : r14 [.ref J] hp = .ok (.v (.int kn)) hp := by
  unfold r14 b14 runOf env0; simp [h]
theorem r11_ok (h : hp[J]? = some (Jn room L rd kn en)) : r11 [.ref J] hp = .ok (.v en) hp := by
  unfold r11 b11 runOf env0; simp [h]
theorem r12_ok (h : hp[J]? = some (Jn room L rd kn en)) : r12 [.ref J] hp = .ok (.v (.int L.length)) hp := by
  unfold r12 b12 runOf env0; simp [h]
theorem r3_ok (h : hp[J]? = some (Jn room L rd kn en)) : r3 [.ref J] hp = .ok (.v (.int (rd + room))) hp := by
  unfold r3 b3 runOf env0; simp [h]
theorem r13_ok {en : Option Int} (h : hp[J]? = some (Jn room L rd kn (enV en))) : r13 [.ref J] hp = .ok (.v (.bl (decide (en = some kn)))) hp := by
  unfold r13 b13 runOf env0
  cases en with
  | none => simp [h]; rfl
  | some e => simp [h]
def newJ (L : KL) (top kn : Int) (en : Option Int) (k : Int) : Bool := !(decide (k < kn) || (lk L k).isSome || decide (top ≤ k)) && (match en with | none => true | some e => decide (k < e))
theorem r4_ok {en : Option Int} (h : hp[J]? = some (Jn room L rd kn (enV en))) (k : Int) : r4 [.ref J, .int k] hp = .ok (.v (.bl (newJ L (rd + room) kn en k))) hp := by
  unfold r4 b4 runOf env0
  have hd : opInA false (.v (.int k)) (.fld J 1) ⟨[some (.v (.ref J)), some (.v (.int k))], hp, hp.length⟩ = .ok (.v (.bl (lk L k).isSome)) ⟨[some (.v (.ref J)), some (.v (.int k))], hp, hp.length⟩ := by
    rw [inA_d]; simp [h, getK_KD]
  unfold newJ
  by_cases h1 : k < kn
  · simp [h, h1]
  · cases h2 : (lk L k).isSome with
    | true => simp [h, h1, hd, h2]
    | false =>
      by_cases h3 : rd + room ≤ k
      · simp [h, h1, hd, h2, e_mRun, r3_ok h, h3]
      · cases en with
        | none => simp [h, h1, hd, h2, e_mRun, r3_ok h, h3]
        | some e => simp [h, h1, hd, h2, e_mRun, r3_ok h, h3]
theorem r15_ok (h : hp[J]? = some (Jn room L rd kn en)) (hr : 0 ≤ rd) (hk : kn ≤ 1000000) (hl : rd ≤ kn) (ha : ∀ k, rd ≤ k → k < kn → k ∈ ks L) : r15 [.ref J] hp = .ok (.v (.str (rdyT L rd kn))) hp := by
  have key := lcGo_map (vs := [1]) (chk := fun _ => True) (tg := gN 1) (te := mBin opIxA (mFld 0 1 (mVar 0)) (mVar 1))
    (fun i : Nat => .int (rd + i)) (fun i => .str [(lk L (rd + i)).getD 0]) ⟨[some (.v (.ref J)), none], hp, hp.length⟩ trivial (List.range (kn - rd).toNat) [] (by rw [szl]; simp; omega) (fun i hi => by
      have hi' := List.mem_range.mp hi
      obtain ⟨c, hc⟩ := Option.isSome_iff_exists.mp (lk_mem.mpr (ha (rd + i) (by omega) (by omega)))
      refine ⟨_, _, rfl, by simp [mSh, h, getK_KD, hc]; rfl, by simp [wipeM]⟩)
  have hj : ∀ s, pJoin [] [.own (.lst ((List.range (kn - rd).toNat).map fun i : Nat => MV.str [(lk L (rd + i)).getD 0]))] s = .ok (.v (.str (rdyT L rd kn))) s := fun s => by
    have := e_joinO (z := []) (s := s) (strs_map (fun c : Nat => [c]) (rdyT L rd kn))
    rw [show (rdyT L rd kn).map (fun c => MV.str [c]) = (List.range (kn - rd).toNat).map fun i : Nat => MV.str [(lk L (rd + i)).getD 0] by simp [rdyT]] at this
    rw [this, join_signs, if_pos]
    have := lens_signs (rdyT L rd kn)
    have l2 : (rdyT L rd kn).length = (kn - rd).toNat := by simp [rdyT]
    simp [Function.comp_def] at this ⊢
    omega
  have b1 : -4611686018427387904 ≤ rd ∧ rd < 4611686018427387904 ∧ -4611686018427387904 ≤ kn ∧ kn < 4611686018427387904 := by omega
  unfold r15 b15 runOf env0
  simp [h, e_Lc, wipeM, b1] at key ⊢
  simp [key, backEnv, hj]
end

section
variable {hp : List MO} {J : Nat} {room rd kn : Int} {L : KL} {en : Option Int}
/-! the joiner's beyond -/
theorem r10_ok (h : hp[J]? = some (Jn room L rd kn (enV en))) (hl : L.length ≤ 9000) (hd : (ks L).Nodup) : r10 [.ref J] hp = .ok (.own (.lst ((runsP (lk (L.filter fun p => decide (kn < p.1))) (ks (L.filter fun p => decide (kn < p.1)))).map mvP))) hp := by
  have hJ := (List.getElem?_eq_some_iff.mp h).1
  have h2 : 2 ≤ sizeLine := by decide
  have hL : (hp.set J (.inst 0 [some (.v (.int room)), some (.own (.lock (KD L))), some (.v (.int rd)), some (.v (.int kn)), some (.v (enV en))]))[J]? = some (.inst 0 [some (.v (.int room)), some (.own (.lock (KD L))), some (.v (.int rd)), some (.v (.int kn)), some (.v (enV en))]) := set_at h
  have key := lcGo_filtO (vs := [1, 2]) (chk := fun _ => True) (tg := gT 2 (gsCons (gN 1) (gsCons (gN 2) gsNil))) (tt := mTestB (mBin opGt (mVar 1) (mFld 0 3 (mVar 0)))) (te := mTup (mConsS (mVar 1) (mConsS (mVar 2) (fun s => .ok [] s))))
    (fun p : Int × Nat => .tup [.int p.1, .str [p.2]]) (fun p => mvP (p.1, [p.2])) (fun p => decide (kn < p.1)) ⟨[some (.v (.ref J)), none, none], hp.set J (.inst 0 [some (.v (.int room)), some (.own (.lock (KD L))), some (.v (.int rd)), some (.v (.int kn)), some (.v (enV en))]), hp.length⟩ trivial L [] (by rw [szl]; simp; omega) (fun p hp => ⟨_, rfl, by
      simp [hL, wipeM, mvP, h2]⟩)
  have hf : (ks (L.filter fun p => decide (kn < p.1))).Nodup := (List.filter_sublist.map _).nodup hd
  obtain ⟨q1, q2⟩ := putP_one (L.filter fun p => decide (kn < p.1)) [] (by simpa using hf)
  have hj := r9_ok ((L.filter fun p => decide (kn < p.1)).map fun p => (p.1, [p.2])) (fun p hp => by
    obtain ⟨q, _, rfl⟩ := List.mem_map.mp hp; simp) (by have := List.length_filter_le (fun p : Int × Nat => decide (kn < p.1)) L; simp; omega) (by
      have := List.length_filter_le (fun p : Int × Nat => decide (kn < p.1)) L
      have e : keysP [] ((L.filter fun p => decide (kn < p.1)).map fun p => (p.1, [p.2])) = ks (L.filter fun p => decide (kn < p.1)) := by simpa using q2
      rw [e]; simp only [ks, List.length_map]; omega) hp
  have q1' : putP (fun _ => none) ((L.filter fun p => decide (kn < p.1)).map fun p => (p.1, [p.2])) = lk (L.filter fun p => decide (kn < p.1)) := by
    have : lk [] = fun _ => none := rfl
    rw [← this, q1]; rfl
  have q2' : keysP [] ((L.filter fun p => decide (kn < p.1)).map fun p => (p.1, [p.2])) = ks (L.filter fun p => decide (kn < p.1)) := by simpa using q2
  rw [q1', q2', List.map_map] at hj
  unfold r10 b10 runOf env0
  rw [show (mvP ∘ fun p : Int × Nat => (p.1, [p.2])) = fun p => mvP (p.1, [p.2]) from rfl] at hj
  simp [h, e_Lc, wipeM, cont_fld] at key ⊢
  simp [key, backEnv, e_mRun, h, set_same h, hj]
end

section
variable {hp : List MO} {J : Nat} {room rd kn : Int} {L : KL} {en : Option Int}
/-! the joiner's take -/
def newL (L : KL) (top kn : Int) (en : Option Int) (a : Int) (z : List Nat) : KL := (pcs a z).filter fun p => newJ L top kn en p.1
theorem fresh_eq (L : KL) (top kn : Int) (en : Option Int) (a : Int) (z : List Nat) : (z.zipIdx.filter fun p => newJ L top kn en (a + (p.2 : Int))).foldl (fun acc p => setK acc (.int (a + (p.2 : Int))) (.str [p.1])) [] = KD (newL L top kn en a z) := by
  have e : newL L top kn en a z = (z.zipIdx.filter fun p => newJ L top kn en (a + (p.2 : Int))).map fun p => (a + (p.2 : Int), p.1) := by
    unfold newL
    rw [show a = a + ((0 : Nat) : Int) by omega, ← pcs_zip z a 0, List.filter_map]
    simp [Function.comp_def]
  have nd : (ks ([] ++ newL L top kn en a z)).Nodup := (List.filter_sublist.map _).nodup (pcs_nd z a)
  have := fold_set _ [] nd
  simp only [List.nil_append, KD_nil] at this
  rw [← this, e, List.foldl_map]
theorem r8_ok (h : hp[J]? = some (Jn room L rd kn (enV en))) (a : Int) (z : List Nat) (ha : 0 ≤ a) (hz0 : z ≠ []) (hz : z.length ≤ 1000) (hl : Low z) (hL : L.length ≤ 100000) (kn' : Int) (h1 : kn ≤ kn')
    (h2 : ∀ k, kn ≤ k → k < kn' → k ∈ ks (L ++ newL L (rd + room) kn en a z)) (h3 : kn' ∉ ks (L ++ newL L (rd + room) kn en a z)) (hd : (ks (L ++ newL L (rd + room) kn en a z)).Nodup) :
    r8 [.ref J, .tup [.int a, .str z]] hp = .ok (.v (.int (newL L (rd + room) kn en a z).length)) (hp.set J (Jn room (L ++ newL L (rd + room) kn en a z) rd kn' (enV en))) := by
  have hzl : z.length ≤ sizeLine := line1000 hz
  have key := dcGo_filtO (vs := [5, 6]) (chk := fun _ => True) (tg := gT 2 (gsCons (gN 5) (gsCons (gN 6) gsNil))) (tt := mTest (mMeth 0 r4 2 (mVar 0) (mConsS (mBin opAdd (mVar 2) (mVar 5)) (fun s => .ok [] s)))) (tk := mBin opAdd (mVar 2) (mVar 5)) (te := mVar 6)
    (fun p : Nat × Nat => .tup [.int (0 + (p.2 : Nat)), .str [p.1]]) (fun p => .int (a + (p.2 : Int))) (fun p => .str [p.1]) (fun p => newJ L (rd + room) kn en (a + (p.2 : Int)))
    ⟨[some (.v (.ref J)), some (.v (.tup [.int a, .str z])), some (.v (.int a)), some (.v (.str z)), none, none, none], hp, hp.length⟩ trivial z.zipIdx [] (by simpa using hzl) (fun p _ => rfl) (fun p _ => ⟨_, rfl, by
      simp [h, e_mRun, r4_ok h, wipeM]⟩)
  rw [fresh_eq] at key
  have hnl : (newL L (rd + room) kn en a z).length ≤ 1000 := Nat.le_trans (List.length_filter_le ..) (by rw [pcs_len]; exact hz)
  obtain ⟨F, hF⟩ : ∃ F, F = newL L (rd + room) kn en a z := ⟨_, rfl⟩
  rw [← hF] at key h2 h3 hd hnl ⊢
  have hsz : L.length + F.length ≤ sizeLine := by rw [szl]; omega
  obtain ⟨s', ew, hw⟩ := while_ok (ft := mTestB (mBin (opInA false) (mFld 0 3 (mVar 0)) (mFld 0 1 (mVar 0)))) (fb := b8f0)
    (fun n s => ∃ i : Int, s = ⟨[some (.v (.ref J)), some (.v (.tup [.int a, .str z])), some (.v (.int a)), some (.v (.str z)), some (.v (frzC (.dict (KD F)))), none, none], hp.set J (Jn room (L ++ F) rd i (enV en)), hp.length⟩ ∧ kn ≤ i ∧ i + n = kn')
    (fun s => s = ⟨[some (.v (.ref J)), some (.v (.tup [.int a, .str z])), some (.v (.int a)), some (.v (.str z)), some (.v (frzC (.dict (KD F)))), none, none], hp.set J (Jn room (L ++ F) rd kn' (enV en)), hp.length⟩)
    (fun n s ⟨i, es, hi, hn⟩ => by
      subst es
      by_cases hk : i = kn'
      · left
        have : lk (L ++ F) i = none := lk_none.mpr (hk ▸ h3)
        refine ⟨?_, by rw [hk]⟩
        simp [h, getK_KD, this]
      · right
        obtain ⟨c, hc⟩ := Option.isSome_iff_exists.mp (lk_mem.mpr (h2 i hi (by omega)))
        obtain ⟨m, rfl⟩ : ∃ m, n = m + 1 := ⟨n - 1, by omega⟩
        refine ⟨m, ⟨[some (.v (.ref J)), some (.v (.tup [.int a, .str z])), some (.v (.int a)), some (.v (.str z)), some (.v (frzC (.dict (KD F)))), none, none], hp.set J (Jn room (L ++ F) rd (i + 1) (enV en)), hp.length⟩, rfl, ?_, ?_, i + 1, rfl, by omega, by omega⟩
        · simp [h, getK_KD, hc]
        · unfold b8f0; simp [h]) (kn' - kn).toNat ⟨[some (.v (.ref J)), some (.v (.tup [.int a, .str z])), some (.v (.int a)), some (.v (.str z)), some (.v (frzC (.dict (KD F)))), none, none], hp.set J (Jn room (L ++ F) rd kn (enV en)), hp.length⟩ ⟨kn, rfl, Int.le_refl _, by omega⟩
  subst hw
  simp at ew
  unfold r8 b8 runOf env0
  simp [e_mRun, r7_ok a z ha hz0 (by omega) hl, e_Dc, enum_map, wipeM, hzl] at key ⊢
  simp [key, backEnv, h, hsz, merge_KD hd, ew]
end

abbrev Wb (K : Nat) (rd room : Int) (en : MV) : MO := .box (.dict [(.str [107, 110, 111, 119, 110], .ref K), (.str [114, 101, 97, 100], .int rd), (.str [114, 111, 111, 109], .int room), (.str [101, 110, 100], en)])
abbrev Kb (L : KL) : MO := .box (.dict (KD L))
section
variable {hp : List MO} {W K : Nat} {room rd : Int} {L : KL} {en : Option Int}
def newW (L : KL) (top : Int) (en : Option Int) (k : Int) : Bool := !(lk L k).isSome && decide (k < top) && (match en with | none => true | some e => decide (k < e))
theorem newW_app {L : KL} {top : Int} {en : Option Int} {k j : Int} {c : Nat} (h : j < k) : newW (L ++ [(j, c)]) top en k = newW L top en k := by
  unfold newW
  rw [lk_app]
  have : lk [(j, c)] k = none := by simp [lk]; omega
  rw [this]
  cases lk L k <;> rfl
def addW (L : KL) (top : Int) (en : Option Int) (a : Int) (z : List Nat) : KL := (pcs a z).filter fun p => newW L top en p.1
end

section
variable {hp : List MO} {W K J : Nat} {room rd : Int} {L : KL} {en : Option Int}
abbrev hiL (L : KL) (f : Int) : KL := L.filter fun p => decide (f < p.1)
abbrev loL (L : KL) (r : Int) : KL := L.filter fun p => decide (r ≤ p.1)
/-- what is told -/
structure Fit (L : KL) (rd room f : Int) (en : Option Int) : Prop where
  far : Far L f
  nd : (ks L).Nodup
  low : ∀ p ∈ L, 97 ≤ p.2 ∧ p.2 ≤ 122
  pos : ∀ k ∈ ks L, 0 ≤ k ∧ k < rd + room
  r0 : 0 ≤ rd
  rf : rd ≤ f
  m1 : 1 ≤ room
  m2 : room ≤ 400
  len : L.length ≤ 900
  top : rd + room ≤ 900
  efar : ∀ e, en = some e → f ≤ e ∧ e ≤ 90000
  eall : ∀ e, en = some e → ∀ k ∈ ks L, k < e
noncomputable def tds (L : KL) (rd room f : Int) (en : Option Int) : List PyData := toldD f (rdyT L rd f) (runsP (lk (hiL L f)) (ks (hiL L f))) (loL L rd).length (rd + room) en (decide (en = some f))
def tvs (L : KL) (rd room f : Int) (en : Option Int) : List MV := toldV f (rdyT L rd f) (runsP (lk (hiL L f)) (ks (hiL L f))) (loL L rd).length (rd + room) en (decide (en = some f))
theorem tds_pd : pds (tvs L rd room f en) = some (tds L rd room f en) := told_pd
theorem Fit.f900 {f : Int} (h : Fit L rd room f en) : f ≤ rd + room := by
  by_cases e : f = 0
  · have := h.r0; have := h.m1; omega
  · have := h.pos _ (h.far.all (f - 1) (by have := h.far.f0; omega) (by omega)); omega
theorem Fit.gd {f : Int} (h : Fit L rd room f en) : Gd (tds L rd room f en) := by
  have t := h.top; have t2 := h.f900; have r0 := h.r0; have rf := h.rf; have m1 := h.m1; have m2 := h.m2; have ln := h.len
  have h1 : (loL L rd).length ≤ L.length := List.length_filter_le ..
  have hp : (srtI (ks (hiL L f))).Perm (ks (hiL L f)) := srtI_perm _
  have h2 : (srtI (ks (hiL L f))).length ≤ L.length := by
    rw [hp.length_eq, List.length_map]; exact List.length_filter_le ..
  have b := runs_bd (lk (hiL L f)) (fun k => k ∈ ks L) (srtI (ks (hiL L f))) [] 0 (fun k hk => by
    have := hp.mem_iff.mp hk
    obtain ⟨p, hp1, rfl⟩ := List.mem_map.mp this
    exact List.mem_map_of_mem (List.mem_filter.mp hp1).1) (Nat.le_refl _) (fun p hp => by cases hp)
  have low := runs_low (lk (hiL L f)) (fun k c e => h.low _ (List.mem_filter.mp (lk_in e)).1) (srtI (ks (hiL L f))) [] (fun p hp => by cases hp)
  refine told_gd (by have := h.far.f0; omega) (rdy_low h.low fun k a b => h.far.all k (by omega) b) (by simp [rdyT]; omega) (fun p hp => ?_) ?_ (by omega) (by omega) (fun e he => by have := h.efar e he; omega)
  · have := b.2 p hp
    have := h.pos _ this.2
    refine ⟨low p hp, by omega, by omega, by omega⟩
  · have := b.1
    show (runsP _ _).length ≤ _
    unfold runsP; omega
theorem lo_hi {f : Int} (h : rd ≤ f) : hiL (loL L rd) f = hiL L f := by
  unfold hiL loL
  rw [List.filter_filter]
  apply List.filter_congr
  intro p hp
  by_cases e : f < p.1
  · have : rd ≤ p.1 := by omega
    simp [e, this]
  · simp [e]
theorem lo_lk {k : Int} (h : rd ≤ k) : lk (loL L rd) k = lk L k := by
  have := lk_filter (L := L) (k := k) fun k => decide (rd ≤ k)
  rw [this]; simp [h]
theorem lo_rdy {f : Int} : rdyT (loL L rd) rd f = rdyT L rd f := by
  unfold rdyT
  apply List.map_congr_left
  intro i hi
  rw [lo_lk (by omega)]
theorem lo_mem {k : Int} : k ∈ ks (loL L rd) ↔ k ∈ ks L ∧ rd ≤ k := by
  rw [← lk_mem, ← lk_mem]
  have := lk_filter (L := L) (k := k) fun k => decide (rd ≤ k)
  rw [this]
  by_cases e : rd ≤ k <;> simp [e]
theorem r16_ok {f : Int} (F : Fit L rd room f en) (h : hp[J]? = some (Jn room (loL L rd) rd f (enV en))) : r16 [.ref J] hp = .ok (.v (.str (txt (tds L rd room f en)))) hp := by
  have t := F.top; have t2 := F.f900; have r0 := F.r0; have rf := F.rf; have m1 := F.m1; have m2 := F.m2; have ln := F.len
  have h1 : (loL L rd).length ≤ L.length := List.length_filter_le ..
  have e1 := r10_ok h (by omega) ((List.filter_sublist.map _).nodup F.nd)
  rw [show (loL L rd).filter (fun p => decide (f < p.1)) = hiL L f from lo_hi F.rf] at e1
  have e2 := r15_ok h r0 (by omega) rf (fun k a b => lo_mem.mpr ⟨F.far.all k (by omega) b, a⟩)
  rw [lo_rdy] at e2
  have h7 : 7 ≤ sizeLine := by decide
  have hr := F.gd.repr (s := ⟨[some (.v (.ref J)), some (.own (.lst (tvs L rd room f en)))], hp, hp.length⟩) (r := .loc 1) (by
    rw [rpd_loc (xs := tvs L rd room f en) rfl, tds_pd]; rfl)
  unfold tvs toldV at hr
  unfold r16 b16 runOf env0
  simp [h, e_mRun, r14_ok h, e1, e2, r12_ok h, r3_ok h, r11_ok h, r13_ok h, h7, loL, hiL] at hr ⊢
  simp [hr]
theorem lc_keys (hWK : W ≠ K) (h : hp[W]? = some (Wb K rd room (enV en))) (hK : hp[K]? = some (Kb L)) : True := trivial
end

section
variable {hp : List MO} {W K J : Nat} {room rd : Int} {L : KL} {en : Option Int}
theorem new_same {f : Int} (F : Fit L rd room f en) {k : Int} (hk : 0 ≤ k) : newJ (loL L rd) (rd + room) f en k = newW L (rd + room) en k := by
  have rf := F.rf
  unfold newJ newW
  by_cases h : k < f
  · have := lk_mem.mpr (F.far.all k hk h)
    simp [h, this]
  · rw [lo_lk (by omega)]
    cases (lk L k).isSome with
    | true => simp
    | false =>
      by_cases h2 : k < rd + room
      · have : ¬ (rd + room ≤ k) := by omega
        simp [h, h2, this]
      · have : rd + room ≤ k := by omega
        simp [h2, this]
theorem newL_same {f : Int} (F : Fit L rd room f en) {a : Int} (ha : 0 ≤ a) (z : List Nat) : newL (loL L rd) (rd + room) f en a z = addW L (rd + room) en a z := by
  unfold newL addW
  apply List.filter_congr
  intro p hp
  exact new_same F (by have := pcs_ks z a _ (List.mem_map_of_mem (f := (·.1)) hp); omega)
theorem addW_mem {a : Int} {z : List Nat} {top : Int} {p : Int × Nat} (h : p ∈ addW L top en a z) : a ≤ p.1 ∧ p ∈ pcs a z ∧ p.1 ∉ ks L ∧ p.1 < top ∧ ∀ e, en = some e → p.1 < e := by
  obtain ⟨h1, h2⟩ := List.mem_filter.mp h
  have := pcs_ks z a _ (List.mem_map_of_mem (f := (·.1)) h1)
  unfold newW at h2
  simp only [Bool.and_eq_true, Bool.not_eq_true', decide_eq_true_eq] at h2
  refine ⟨this.1, h1, fun q => ?_, h2.1.2, fun e he => ?_⟩
  · have := lk_mem.mpr q; rw [this] at h2; exact absurd h2.1.1 (by simp)
  · subst he; simpa using h2.2
theorem lo_add {f : Int} (F : Fit L rd room f en) {a : Int} (ha : 0 ≤ a) (z : List Nat) : loL (L ++ addW L (rd + room) en a z) rd = loL L rd ++ addW L (rd + room) en a z := by
  unfold loL
  rw [List.filter_append]
  congr 1
  rw [List.filter_eq_self]
  intro p hp
  obtain ⟨h1, _, h2, _⟩ := addW_mem hp
  have : ¬ p.1 < f := fun q => h2 (F.far.all _ (by omega) q)
  have := F.rf
  simp; omega
theorem Fit.add {f : Int} (F : Fit L rd room f en) {a : Int} (ha : 0 ≤ a) {z : List Nat} (hz : Low z) (hl : L.length + z.length ≤ 900) : ∃ f', f ≤ f' ∧ Fit (L ++ addW L (rd + room) en a z) rd room f' en := by
  have r0 := F.r0; have m1 := F.m1
  have hpos : ∀ k ∈ ks (L ++ addW L (rd + room) en a z), 0 ≤ k ∧ k < rd + room := fun k hk => by
    simp only [ks, List.map_append, List.mem_append] at hk
    rcases hk with hk | hk
    · exact F.pos k hk
    · obtain ⟨p, hp, rfl⟩ := List.mem_map.mp hk
      have := addW_mem hp; omega
  obtain ⟨f', F', _⟩ := far_ex (L := L ++ addW L (rd + room) en a z) (rd + room).toNat (fun k hk => by have := hpos k hk; omega)
  have hff : f ≤ f' := by
    by_cases q : f' < f
    · have h1 := F.far.all f' F'.f0 q
      have : f' ∈ ks (L ++ addW L (rd + room) en a z) := by simp only [ks, List.map_append, List.mem_append]; exact .inl h1
      exact absurd this F'.no
    · omega
  have heall : ∀ e, en = some e → ∀ k ∈ ks (L ++ addW L (rd + room) en a z), k < e := fun e he k hk => by
      simp only [ks, List.map_append, List.mem_append] at hk
      rcases hk with hk | hk
      · exact F.eall e he k hk
      · obtain ⟨p, hp, rfl⟩ := List.mem_map.mp hk
        exact (addW_mem hp).2.2.2.2 e he
  refine ⟨f', hff, F', ?_, fun p hp => ?_, hpos, F.r0, by have := F.rf; omega, F.m1, F.m2, ?_, F.top, fun e he => ?_, heall⟩
  · simp only [ks, List.map_append, List.nodup_append]
    refine ⟨F.nd, (List.filter_sublist.map _).nodup (pcs_nd z a), fun x hx y hy e => ?_⟩
    subst e
    obtain ⟨p, hp, rfl⟩ := List.mem_map.mp hy
    exact (addW_mem hp).2.2.1 hx
  · rcases List.mem_append.mp hp with hp | hp
    · exact F.low p hp
    · exact pcs_low z a hz p (addW_mem hp).2.1
  · have : (addW L (rd + room) en a z).length ≤ z.length := by have := List.length_filter_le (fun p : Int × Nat => newW L (rd + room) en p.1) (pcs a z); rw [pcs_len] at this; exact this
    simp; omega
  · have h1 := F.efar e he
    refine ⟨?_, h1.2⟩
    by_cases q : f' = 0
    · have := F.far.f0; omega
    · have := heall e he (f' - 1) (F'.all _ (by have := F'.f0; omega) (by omega)); omega
theorem take_both {f : Int} (F : Fit L rd room f en) {a : Int} (ha : 0 ≤ a) {z : List Nat} (hz : Low z) (hz0 : z ≠ []) (hl : L.length + z.length ≤ 900) : ∃ f', f ≤ f' ∧ Fit (L ++ addW L (rd + room) en a z) rd room f' en ∧
    ∀ (hp : List MO) (J : Nat), hp[J]? = some (Jn room (loL L rd) rd f (enV en)) → r8 [.ref J, .tup [.int a, .str z]] hp = .ok (.v (.int (addW L (rd + room) en a z).length)) (hp.set J (Jn room (loL (L ++ addW L (rd + room) en a z) rd) rd f' (enV en))) := by
  obtain ⟨f', hff, F'⟩ := F.add ha hz hl
  refine ⟨f', hff, F', fun hp J h => ?_⟩
  have rf := F.rf
  have e := newL_same F ha z
  have l1 : (loL L rd).length ≤ L.length := List.length_filter_le ..
  have e2 := lo_add F ha z
  have := r8_ok h a z ha hz0 (by omega) hz (by omega) f' hff (by
    rw [e, ← e2]; exact fun k h1 h2 => lo_mem.mpr ⟨F'.far.all k (by have := F.far.f0; omega) h2, by omega⟩) (by
    rw [e, ← e2]; exact fun q => F'.far.no (lo_mem.mp q).1) (by
    rw [e, ← e2]; exact (List.filter_sublist.map _).nodup F'.nd)
  rw [e, ← e2] at this
  exact this
theorem Fit.new {room : Int} (h1 : 1 ≤ room) (h2 : room ≤ 400) : Fit [] 0 room 0 none := ⟨⟨Int.le_refl _, fun k a b => by omega, by simp⟩, by simp, by simp, by simp, Int.le_refl _, Int.le_refl _, h1, h2, by simp, by omega, by simp, by simp⟩
end

theorem pigeon : ∀ (n : Nat) (l : List Int) (a : Int), l.Nodup → (∀ k ∈ l, a ≤ k ∧ k < a + n) → l.length ≤ n
  | 0, l, a, _, h => by
    cases l with
    | nil => simp
    | cons x r => have := h x (List.mem_cons_self ..); omega
  | n + 1, l, a, hd, h => by
    have h1 := pigeon n (l.erase (a + n)) a (hd.erase _) fun k hk => by
      have := (hd.mem_erase_iff).mp hk
      have := h k this.2
      omega
    have h2 := List.length_erase (a := a + (n : Int)) (l := l)
    split at h2 <;> omega
theorem cover : ∀ (n : Nat) (l : List Int), (∀ k : Int, 0 ≤ k → k < n → k ∈ l) → n ≤ l.length
  | 0, l, _ => Nat.zero_le _
  | n + 1, l, h => by
    have hm := h n (by omega) (by omega)
    have h1 := cover n (l.erase n) fun k a b => (List.mem_erase_of_ne (by omega)).mpr (h k a (by omega))
    have h2 := List.length_erase_of_mem hm
    have := List.length_pos_of_mem hm
    omega
section
variable {hp : List MO} {W K J : Nat} {room rd : Int} {L : KL} {en : Option Int}
theorem Fit.flen {f : Int} (F : Fit L rd room f en) : f ≤ L.length := by
  have := cover f.toNat (ks L) fun k a b => F.far.all k a (by omega)
  simp only [ks, List.length_map] at this; omega
theorem Fit.held {f : Int} (F : Fit L rd room f en) : (loL L rd).length ≤ room := by
  have m1 := F.m1
  have := pigeon room.toNat (ks (loL L rd)) rd ((List.filter_sublist.map _).nodup F.nd) fun k hk => by
    have := lo_mem.mp hk
    have := F.pos k this.1
    omega
  simp only [ks, List.length_map] at this; omega
theorem cut_to (z : List Nat) (m : Int) (h : 0 ≤ m) : cutM z none (some m) = z.take m.toNat := by
  obtain ⟨k, rfl⟩ : ∃ k : Nat, m = k := ⟨m.toNat, by omega⟩
  unfold cutM
  rw [HT.sIx_nat]
  simp [HT.sIx]
abbrev rdTo (rd f m : Int) : Int := if rd + m < f then rd + m else f
theorem rdy_take {f m : Int} (h : rd ≤ f) (hm : 0 ≤ m) : (rdyT L rd f).take m.toNat = rdyT L rd (rdTo rd f m) := by
  unfold rdyT rdTo
  rw [← List.map_take, List.take_range]
  congr 2
  split <;> omega
theorem rdy_len {a f : Int} : (rdyT L a f).length = (f - a).toNat := by simp [rdyT]
theorem rdy_app {a m f : Int} (h1 : a ≤ m) (h2 : m ≤ f) : rdyT L a m ++ rdyT L m f = rdyT L a f := by
  unfold rdyT
  rw [show (f - a).toNat = (m - a).toNat + (f - m).toNat by omega, List.range_add, List.map_append, List.map_map]
  congr 1
  apply List.map_congr_left
  intro i _
  simp only [Function.comp]
  congr 2
  omega
theorem rdy_ext {M : KL} {a f : Int} (ha : ∀ k, a ≤ k → k < f → k ∈ ks L) : rdyT (L ++ M) a f = rdyT L a f := by
  unfold rdyT
  apply List.map_congr_left
  intro i hi
  have hi' := List.mem_range.mp hi
  obtain ⟨c, hc⟩ := Option.isSome_iff_exists.mp (lk_mem.mpr (ha (a + i) (by omega) (by omega)))
  rw [lk_app, hc]; rfl
theorem lo_step {r : Int} : (loL L r).filter (fun p => !eqK (.int p.1) (.int r)) = loL L (r + 1) := by
  unfold loL
  rw [List.filter_filter]
  apply List.filter_congr
  intro p hp
  simp only [eqK_int]
  by_cases e : p.1 = r
  · have : ¬ (r + 1 ≤ p.1) := by omega
    simp [e]; omega
  · by_cases e2 : r ≤ p.1
    · have : r + 1 ≤ p.1 := by omega
      simp [e, e2, this]
    · have : ¬ (r + 1 ≤ p.1) := by omega
      simp [e, e2, this]
theorem del_KD {M : KL} {r : Int} : delK (KD M) (.int r) = KD (M.filter fun p => !eqK (.int p.1) (.int r)) := by
  unfold delK KD
  rw [List.filter_map]
  rfl
theorem read_go {f : Int} (F : Fit L rd room f en) (x1 x2 : Option SV) (b : Nat) (J : Nat) : ∀ (n : Nat) (i : Nat) (hp : List MO) (x3 : Option SV), hp[J]? = some (Jn room (loL L (rd + i)) rd f (enV en)) → rd + i + n ≤ f →
    ∃ y3, forGo (fun _ => True) (gN 3) b19f0 ((List.range' i n).map fun i : Nat => .int i) ⟨[some (.v (.ref J)), x1, x2, x3], hp, b⟩ = .ok .next ⟨[some (.v (.ref J)), x1, x2, y3], hp.set J (Jn room (loL L (rd + i + n)) rd f (enV en)), b⟩
  | 0, i, hp, x3, h, _ => ⟨x3, by simp [forGo, set_same h]⟩
  | n + 1, i, hp, x3, h, hn => by
    obtain ⟨y3, e⟩ := read_go F x1 x2 b J n (i + 1) (hp.set J (Jn room (loL L (rd + (i + 1 : Nat))) rd f (enV en))) (some (.v (.int i))) (set_at h) (by omega)
    refine ⟨y3, ?_⟩
    have hm : rd + (i : Int) ∈ ks (loL L (rd + i)) := lo_mem.mpr ⟨F.far.all _ (by have := F.r0; omega) (by omega), by omega⟩
    obtain ⟨c, hc⟩ := Option.isSome_iff_exists.mp (lk_mem.mpr hm)
    have hd : delK (KD (loL L (rd + i))) (.int (rd + i)) = KD (loL L (rd + ((i + 1 : Nat) : Int))) := by
      rw [del_KD, lo_step]; congr 2; omega
    have step : b19f0 ⟨[some (.v (.ref J)), x1, x2, some (.v (.int i))], hp, b⟩ = .ok .next ⟨[some (.v (.ref J)), x1, x2, some (.v (.int i))], hp.set J (Jn room (loL L (rd + ((i + 1 : Nat) : Int))) rd f (enV en)), b⟩ := by
      unfold b19f0
      simp [h, getK_KD, hc, hd]
    rw [List.range'_succ, List.map_cons]
    unfold forGo
    have e0 : rd + ((i : Int) + 1) + (n : Int) = rd + (i : Int) + ((n : Int) + 1) := by omega
    simp [step] at e ⊢
    rw [e, e0]
theorem read_both {f : Int} (F : Fit L rd room f en) {m : Int} (hm : 0 ≤ m) (ht : L.length + room ≤ 900) : Fit L (rdTo rd f m) room f en ∧
    ∀ (hp : List MO) (J : Nat), hp[J]? = some (Jn room (loL L rd) rd f (enV en)) → r19 [.ref J, .int m] hp = .ok (.v (.str (rdyT L rd (rdTo rd f m)))) (hp.set J (Jn room (loL L (rdTo rd f m)) (rdTo rd f m) f (enV en))) := by
  have rf := F.rf; have r0 := F.r0; have fl := F.flen; have tp := F.top; have f9 := F.f900
  have q : rd ≤ rdTo rd f m ∧ rdTo rd f m ≤ f := by unfold rdTo; split <;> omega
  refine ⟨⟨F.far, F.nd, F.low, fun k hk => by have := F.pos k hk; omega, by omega, q.2, F.m1, F.m2, F.len, by omega, F.efar, F.eall⟩, fun hp J h => ?_⟩
  have e2 := r15_ok h r0 (by omega) rf (fun k a b => lo_mem.mpr ⟨F.far.all k (by omega) b, a⟩)
  rw [lo_rdy] at e2
  obtain ⟨n, hn⟩ : ∃ n : Nat, n = (rdTo rd f m - rd).toNat := ⟨_, rfl⟩
  obtain ⟨y3, e3⟩ := read_go F (some (.v (.int m))) (some (.v (.str (rdyT L rd (rdTo rd f m))))) hp.length J n 0 hp none (by simpa using h) (by omega)
  have e4 : rd + ((0 : Nat) : Int) + (n : Int) = rdTo rd f m := by omega
  rw [e4] at e3
  have hl : (rdyT L rd f).length ≤ sizeLine := by rw [rdy_len, szl]; omega
  have hl2 : (rdyT L rd (rdTo rd f m)).length ≤ sizeLine := by rw [rdy_len, szl]; omega
  have hn2 : n ≤ sizeLine := by rw [szl]; omega
  unfold r19 b19 runOf env0
  rw [← List.range_eq_range'] at e3
  obtain ⟨N, hN⟩ : ∃ N : Int, N = n := ⟨_, rfl⟩
  have hb : -4611686018427387904 ≤ N ∧ N < 4611686018427387904 := by omega
  have hrn : rd + N = rdTo rd f m := by omega
  have hNn : N.toNat = n := by omega
  have hpl : ∀ s, pLen [.v (.str (rdyT L rd (rdTo rd f m)))] s = .ok (.v (.int N)) s := fun s => by
    show (if (rdyT L rd (rdTo rd f m)).length ≤ sizeLine then Out.ok (RV.v (MV.int ((rdyT L rd (rdTo rd f m)).length : Nat))) s else .bad) = _
    rw [if_pos hl2, rdy_len, ← hn, hN]
  clear hl2 hn2
  rw [← hNn] at e3
  clear hNn hN hn
  simp [e_mRun, r5_ok, hm, h, e2, hl, cut_to _ _ hm, rdy_take rf hm, hpl, e_For, hb] at e3 ⊢
  simp [e3, hrn, h, hpl]
end

@[simp] theorem e_Raise {c : Nat} {s : MS} : mRaise c s = .exc c [] s := rfl
theorem e_Try {cm : Nat → Option Bool} {i j : Nat} {fb : MSt} {s : MS} : mTryE cm i j fb s = match fb s with
  | .exc c xs s1 => (match cm c with
    | some true => if xs = [] ∧ i < s1.env.length ∧ j < s1.env.length then .ok .next { s1 with hp := s1.hp ++ [.exc c], env := ((s1.env.set i (some (.v (.ref s1.hp.length)))).set j (some (.v (.ref s1.hp.length)))).set i none } else .bad
    | some false => .exc c xs s1
    | none => .bad)
  | o => o := rfl
theorem e_isX {km : Nat → Option Bool} {f : ME} {s : MS} : mIsX km f s = (f s).bind fun r s1 => pIsX km r s1 := rfl
@[simp] theorem kitB_NoneType_int : kitB "NoneType" "int" = some false := by decide +kernel
@[simp] theorem kitB_NoneType_bool : kitB "NoneType" "bool" = some false := by decide +kernel
@[simp] theorem kitB_NoneType_str : kitB "NoneType" "str" = some false := by decide +kernel
@[simp] theorem kitB_NoneType_tuple : kitB "NoneType" "tuple" = some false := by decide +kernel
@[simp] theorem kitB_bool_int : kitB "bool" "int" = some true := by decide +kernel
@[simp] theorem kitB_bool_bool : kitB "bool" "bool" = some true := by decide +kernel
@[simp] theorem kitB_bool_str : kitB "bool" "str" = some false := by decide +kernel
@[simp] theorem kitB_bool_tuple : kitB "bool" "tuple" = some false := by decide +kernel
@[simp] theorem kitB_int_int : kitB "int" "int" = some true := by decide +kernel
@[simp] theorem kitB_int_bool : kitB "int" "bool" = some false := by decide +kernel
@[simp] theorem kitB_int_str : kitB "int" "str" = some false := by decide +kernel
@[simp] theorem kitB_int_tuple : kitB "int" "tuple" = some false := by decide +kernel
@[simp] theorem kitB_str_int : kitB "str" "int" = some false := by decide +kernel
@[simp] theorem kitB_str_bool : kitB "str" "bool" = some false := by decide +kernel
@[simp] theorem kitB_str_str : kitB "str" "str" = some true := by decide +kernel
@[simp] theorem kitB_str_tuple : kitB "str" "tuple" = some false := by decide +kernel
@[simp] theorem kitB_tuple_int : kitB "tuple" "int" = some false := by decide +kernel
@[simp] theorem kitB_tuple_bool : kitB "tuple" "bool" = some false := by decide +kernel
@[simp] theorem kitB_tuple_str : kitB "tuple" "str" = some false := by decide +kernel
@[simp] theorem kitB_tuple_tuple : kitB "tuple" "tuple" = some true := by decide +kernel
@[simp] theorem kitB_list_int : kitB "list" "int" = some false := by decide +kernel
@[simp] theorem kitB_list_bool : kitB "list" "bool" = some false := by decide +kernel
@[simp] theorem kitB_list_str : kitB "list" "str" = some false := by decide +kernel
@[simp] theorem kitB_list_tuple : kitB "list" "tuple" = some false := by decide +kernel
@[simp] theorem kitB_dict_int : kitB "dict" "int" = some false := by decide +kernel
@[simp] theorem kitB_dict_bool : kitB "dict" "bool" = some false := by decide +kernel
@[simp] theorem kitB_dict_str : kitB "dict" "str" = some false := by decide +kernel
@[simp] theorem kitB_dict_tuple : kitB "dict" "tuple" = some false := by decide +kernel
theorem app_get {hp : List MO} {i : Nat} {o : MO} (l : List MO) (h : hp[i]? = some o) : (hp ++ l)[i]? = some o := by
  rw [List.getElem?_append_left (List.getElem?_eq_some_iff.mp h).1]; exact h
/-! the odd things -/
def both : List MV := [.non, .bl true, .bl false, .int (-1), .str [49], .str [], .str [97], .tup [], .lst [], .dct [] [], .tup [.int 0], .lst [.int 0, .str [97]], .str [48, 58, 97], .tup [.int 1, .int 2]]
def odd0 : List MV := [.int 0, .int 401, .int 100000000000000000000, .tup [.int 0, .str [97]]]
def odd1 : List MV := [.int 0, .int 5, .tup [.int 0, .str []], .tup [.int (-1), .str [97]], .tup [.int 0, .str [65]], .tup [.int 0, .str [97], .int 1], .tup [.bl true, .str [97]]]
def odd2 : List MV := [.int (-5), .tup [.int 0, .str [97]]]
/-- no whole number -/
def NoInt (x : MV) : Prop := ∀ hp : List MO, r0 [x] hp = .ok (.v (.bl false)) hp
theorem noInt_both : ∀ x ∈ both, x = .int (-1) ∨ NoInt x := by
  unfold both NoInt r0 b0 runOf env0
  simp [pIsi, kindR, cont]
theorem noInt_tup (a b : MV) : NoInt (.tup [a, b]) := fun hp => by
  unfold r0 b0 runOf env0
  simp [pIsi, kindR, cont]
def NoFrom (x : MV) : Prop := ∀ hp : List MO, r5 [x, .int 0] hp = .ok (.v (.bl false)) hp
theorem noFrom_of {x : MV} (h : NoInt x) : NoFrom x := fun hp => by
  unfold r5 b5 runOf env0
  simp [e_mRun, h hp]
theorem noFrom_neg {i : Int} (h : i < 0) : NoFrom (.int i) := fun hp => by
  have : ¬ 0 ≤ i := by omega
  rw [r5_ok]; simp [this]
theorem noFrom_all : ∀ x ∈ both ++ odd2, NoFrom x := fun x hx => by
  rcases List.mem_append.mp hx with h | h
  · rcases noInt_both x h with rfl | h
    · exact noFrom_neg (by decide)
    · exact noFrom_of h
  · unfold odd2 at h
    simp at h
    rcases h with rfl | rfl
    · exact noFrom_neg (by decide)
    · exact noFrom_of (noInt_tup _ _)
theorem noRoom_all : ∀ x ∈ both ++ odd0, ∀ hp : List MO, r1 [x] hp = .exc 0 [] hp := fun x hx hp => by
  have no : NoInt x → r1 [x] hp = .exc 0 [] hp := fun h => by
    unfold r1 b1 runOf env0
    simp [e_mRun, h hp]
  have far : ∀ i : Int, (i < 1 ∨ 400 < i) → r1 [.int i] hp = .exc 0 [] hp := fun i h => by
    unfold r1 b1 runOf env0
    rcases h with h | h
    · have : ¬ 1 ≤ i := by omega
      simp [e_mRun, r0_ok, this]
    · have : ¬ i ≤ 400 := by omega
      by_cases h2 : 1 ≤ i
      · simp [e_mRun, r0_ok, this, h2]
      · simp [e_mRun, r0_ok, h2]
  rcases List.mem_append.mp hx with h | h
  · rcases noInt_both x h with rfl | h
    · exact far _ (by decide)
    · exact no h
  · unfold odd0 at h
    simp at h
    rcases h with rfl | rfl | rfl | rfl
    · exact far _ (by decide)
    · exact far _ (by decide)
    · exact far _ (by decide)
    · exact no (noInt_tup _ _)
theorem noPiece_all : ∀ x ∈ both ++ odd1, ∀ hp : List MO, r7 [x] hp = .ok (.v (.bl false)) hp := fun x hx hp => by
  have e10 := r5_ok 1 0 hp
  have e00 := r5_ok 0 0 hp
  have em := r5_ok (-1) 0 hp
  have et : r5 [.bl true, .int 0] hp = .ok (.v (.bl false)) hp := noFrom_of ((noInt_both (.bl true) (by unfold both; simp)).resolve_left (by simp)) hp
  have s2 : r6 [.int 2] hp = .ok (.v (.bl false)) hp := by
    unfold r6 b6 runOf env0; simp [pIsi, kindR, cont]
  have s0 : r6 [.str []] hp = .ok (.v (.bl true)) hp := r6_ok [] (by decide) (by unfold Low; decide) hp
  have sA : r6 [.str [65]] hp = .ok (.v (.bl false)) hp := by
    have key := lcGo_mapO (vs := [1]) (chk := fun _ => True) (tg := gN 1) (te := mBin (opInA false) (mVar 1) (mC (.str ABC)))
      (fun c : Nat => .str [c]) (fun c => .bl (decide (97 ≤ c ∧ c ≤ 122))) ⟨[some (.v (.str [65])), none], hp, hp.length⟩ trivial [65] [] (by rw [szl]; decide) (fun c hc => by
        exact ⟨_, rfl, by simp [mSh, in_ABC, wipeM]⟩)
    have hall := fun s => e_allO (fun c : Nat => decide (97 ≤ c ∧ c ≤ 122)) [65] s
    unfold r6 b6 runOf env0
    simp [e_Lc, e_Mt, wipeM] at key hall ⊢
    simp [key, backEnv, hall]
  have i0 : ∀ x y : MV, atI [x, y] 0 = some x := fun _ _ => rfl
  have i1 : ∀ x y : MV, atI [x, y] 1 = some y := fun _ _ => rfl
  have e1 : ∀ s, opEqv true (.v (.str [])) (.v (.str [])) s = .ok (.v (.bl false)) s := fun s => by rw [e_eqS (by decide) (by decide)]; rfl
  unfold both odd1 at hx
  simp at hx
  unfold r7 b7 runOf env0
  rcases hx with rfl | rfl | rfl | rfl | rfl | rfl | rfl | rfl | rfl | rfl | rfl | rfl | rfl | rfl | rfl | rfl | rfl | rfl | rfl | rfl | rfl <;>
    simp [pIsi, kindR, cont, e_mRun, i0, i1, e10, e00, em, et, s2, s0, sA, e1]

section
variable {hp : List MO} {J : Nat} {room rd kn : Int} {L : KL} {en : MV}
theorem init_exc {x : MV} (hx : x ∈ both ++ odd0) : r2 [.ref J, x] hp = .exc 0 [] hp := by
  have e := noRoom_all x hx
  unfold r2 b2 runOf env0
  simp [e_mRun, e]
theorem take_exc {x : MV} (hx : x ∈ both ++ odd1) : r8 [.ref J, x] hp = .exc 1 [] hp := by
  have e := noPiece_all x hx
  unfold r8 b8 runOf env0
  simp [e_mRun, e]
theorem read_exc {x : MV} (hx : x ∈ both ++ odd2) : r19 [.ref J, x] hp = .exc 3 [] hp := by
  have e := noFrom_all x hx
  unfold r19 b19 runOf env0
  simp [e_mRun, e _]
theorem end_exc {x : MV} (hx : x ∈ both ++ odd2) : r18 [.ref J, x] hp = .exc 2 [] hp := by
  have e := noFrom_all x hx
  unfold r18 b18 runOf env0
  simp [e_mRun, e _]
theorem eq4 (b0 b1 b2 b3 : Bool) (s : MS) (h : s.env[5]? = some (some (.own (.lst [.bl b0, .bl b1, .bl b2, .bl b3])))) : opEqv false (.loc 5) (.own (.lst [.bl b0, .bl b1, .bl b2, .bl b3])) s = .ok (.v (.bl true)) s := by
  have h1 : rpd s (.loc 5) = some (.list [.bool b0, .bool b1, .bool b2, .bool b3]) := by
    rw [rpd_loc h]; rfl
  rw [e_eqSame h1 rfl (by cases b0 <;> cases b1 <;> cases b2 <;> cases b3 <;> decide +kernel)]; rfl
theorem doors (d : Int) (s : MS) (hp : List MO) (b : Nat) (x0 x2 x3 x4 x5 : Option SV) : lcGo [6] (fun _ => True) (gN 6) mYes (mBin (opEqv false) (mVar 6) (mVar 1)) ((List.range 4).map fun i : Nat => .int i) [] ⟨[x0, some (.v (.int d)), x2, x3, x4, x5, none], hp, b⟩ =
    .ok ([] ++ (List.range 4).map fun i : Nat => .bl (decide ((i : Int) = d))) ⟨[x0, some (.v (.int d)), x2, x3, x4, x5, none], hp, b⟩ :=
  lcGo_mapO (fun i : Nat => .int i) (fun i => .bl (decide ((i : Int) = d))) _ trivial (List.range 4) [] (by rw [szl]; decide) (fun i hi => by
    exact ⟨_, rfl, by simp [mSh, wipeM]⟩)
theorem doors4 (d : Int) (hp : List MO) (b : Nat) (x0 x2 x3 x4 x5 : Option SV) : mLc [6] (mRange1 (mCons (mC (.int 4)) (fun s => .ok [] s))) (gN 6) mYes (mBin (opEqv false) (mVar 6) (mVar 1)) ⟨[x0, some (.v (.int d)), x2, x3, x4, x5, none], hp, b⟩ =
    .ok (.own (.lst [.bl (decide (0 = d)), .bl (decide (1 = d)), .bl (decide (2 = d)), .bl (decide (3 = d))])) ⟨[x0, some (.v (.int d)), x2, x3, x4, x5, none], hp, b⟩ := by
  have key := doors d ⟨[], [], 0⟩ hp b x0 x2 x3 x4 x5
  rw [show ((List.range 4).map fun i : Nat => MV.int i) = [.int 0, .int 1, .int 2, .int 3] by rfl, show ((List.range 4).map fun i : Nat => MV.bl (decide ((i : Int) = d))) = [.bl (decide (0 = d)), .bl (decide (1 = d)), .bl (decide (2 = d)), .bl (decide (3 = d))] by rfl] at key
  have r4 : List.range 4 = [0, 1, 2, 3] := rfl
  simp [e_Lc, wipeM, r4] at key ⊢
  simp [key, backEnv]
theorem ref0 (h : hp[J]? = some (Jn room L rd kn en)) {x : MV} (hx : x ∈ both ++ odd0) : ∃ l, r20 [.ref J, .int 0, x] hp = .ok (.v (.bl true)) (hp ++ l) := by
  refine ⟨[.inst 0 [none, none, none, none, none], .exc 0], ?_⟩
  have e : ∀ (J : Nat) (hp : List MO), r2 [.ref J, x] hp = .exc 0 [] hp := fun J hp => init_exc hx
  unfold r20 b20 runOf env0
  simp [e_Try, e_isX, e_mRun, h, e, ct0132, kb_ValueError, km0, km1, km2, km3, pIsX, doors4, eq4, mMakeIn, szl]
theorem ref1 (h : hp[J]? = some (Jn room L rd kn en)) {x : MV} (hx : x ∈ both ++ odd1) : ∃ l, r20 [.ref J, .int 1, x] hp = .ok (.v (.bl true)) (hp ++ l) := by
  refine ⟨[.exc 1], ?_⟩
  have e : ∀ (J : Nat) (hp : List MO), r8 [.ref J, x] hp = .exc 1 [] hp := fun J hp => take_exc hx
  unfold r20 b20 runOf env0
  simp [e_Try, e_isX, e_mRun, h, e, ct0132, kb_ValueError, km0, km1, km2, km3, pIsX, doors4, eq4, szl]
theorem ref2 (h : hp[J]? = some (Jn room L rd kn en)) {x : MV} (hx : x ∈ both ++ odd2) : ∃ l, r20 [.ref J, .int 2, x] hp = .ok (.v (.bl true)) (hp ++ l) := by
  refine ⟨[.exc 3], ?_⟩
  have e : ∀ (J : Nat) (hp : List MO), r19 [.ref J, x] hp = .exc 3 [] hp := fun J hp => read_exc hx
  unfold r20 b20 runOf env0
  simp [e_Try, e_isX, e_mRun, h, e, ct0132, kb_ValueError, km0, km1, km2, km3, pIsX, doors4, eq4, szl]
theorem ref3 (h : hp[J]? = some (Jn room L rd kn en)) {x : MV} (hx : x ∈ both ++ odd2) : ∃ l, r20 [.ref J, .int 3, x] hp = .ok (.v (.bl true)) (hp ++ l) := by
  refine ⟨[.exc 2], ?_⟩
  have e : ∀ (J : Nat) (hp : List MO), r18 [.ref J, x] hp = .exc 2 [] hp := fun J hp => end_exc hx
  unfold r20 b20 runOf env0
  simp [e_Try, e_isX, e_mRun, h, e, ct0132, kb_ValueError, km0, km1, km2, km3, pIsX, doors4, eq4, szl]
end
def odds : Nat → List MV
  | 0 => both ++ odd0
  | 1 => both ++ odd1
  | _ => both ++ odd2
theorem ref_all {hp : List MO} {J : Nat} {room rd kn : Int} {L : KL} {en : MV} (h : hp[J]? = some (Jn room L rd kn en)) (d : Nat) (hd : d < 4) {x : MV} (hx : x ∈ odds d) : ∃ l, r20 [.ref J, .int d, x] hp = .ok (.v (.bl true)) (hp ++ l) := by
  have : d = 0 ∨ d = 1 ∨ d = 2 ∨ d = 3 := by omega
  rcases this with rfl | rfl | rfl | rfl
  · exact ref0 h hx
  · exact ref1 h hx
  · exact ref2 h hx
  · exact ref3 h hx

theorem cut_mem {α : Type} {xs : List α} {a b : Option Int} {x : α} (h : x ∈ cutM xs a b) : x ∈ xs := by
  unfold cutM at h
  exact List.mem_of_mem_drop (List.mem_of_mem_take h)
def odd : List MV := [.lst (both ++ odd0), .lst (both ++ odd1), .lst (both ++ odd2), .lst (both ++ odd2)]
theorem odd_at (d : Nat) (hd : d < 4) : atI odd d = some (.lst (odds d)) := by
  have : d = 0 ∨ d = 1 ∨ d = 2 ∨ d = 3 := by omega
  rcases this with rfl | rfl | rfl | rfl <;> rfl
theorem odds_len (d : Nat) : 16 ≤ (odds d).length ∧ (odds d).length ≤ 21 := by
  unfold odds
  split <;> decide
section
variable (P J : Nat) (hPJ : P ≠ J) (sc k x6 : Option SV) (room : Int) (L : KL) (f : Int) (F : Fit L 0 room f none) (b : Nat)
/-- the state of the item loop -/
def Sd (P J : Nat) (sc k x6 : Option SV) (room : Int) (L : KL) (f : Int) (b : Nat) (x8 : Option SV) (s : MS) : Prop := ∃ (p : Int × Int) (hp : List MO) (x9 x10 : Option SV),
  s = ⟨[sc, some (.own (.lst both)), some (.own (.lst odd)), k, some (.v (.ref P)), some (.v (.ref J)), x6, some (.v (.str (txt (tds L 0 room f none)))), x8, x9, x10], hp, b⟩ ∧ hp[P]? = some (PB p) ∧ OkP p ∧ hp[J]? = some (Jn room (loL L 0) 0 f (enV none))
include F in
theorem item_ok (d : Nat) (hd : d < 4) (x : MV) (hx : x ∈ odds d) (p : Int × Int) (hp : List MO) (x9 : Option SV) (h1 : hp[P]? = some (PB p)) (h2 : OkP p) (h3 : hp[J]? = some (Jn room (loL L 0) 0 f (enV none))) :
    Ok (b23f1 ⟨[sc, some (.own (.lst both)), some (.own (.lst odd)), k, some (.v (.ref P)), some (.v (.ref J)), x6, some (.v (.str (txt (tds L 0 room f none)))), some (.v (.int d)), x9, some (.v x)], hp, b⟩) fun fl s => fl = .next ∧ Sd P J sc k x6 room L f b (some (.v (.int d))) s := by
  obtain ⟨l, e1⟩ := ref_all h3 d hd hx
  have h4 := app_get l h3
  have ebt := r16_ok F h4
  have hT : ∀ s, opEqv true (.v (.str (txt (tds L 0 room f none)))) (.v (.str (txt (tds L 0 room f none)))) s = .ok (.v (.bl false)) s := fun s => by
    rw [e_eqS (F.gd.all tds_pd) (F.gd.all tds_pd)]; simp
  have fin : Sd P J sc k x6 room L f b (some (.v (.int d))) ⟨[sc, some (.own (.lst both)), some (.own (.lst odd)), k, some (.v (.ref P)), some (.v (.ref J)), x6, some (.v (.str (txt (tds L 0 room f none)))), some (.v (.int d)), x9, some (.v x)], hp ++ l, b⟩ := ⟨p, _, _, _, rfl, app_get l h1, h2, h4⟩
  generalize both = B at fin ⊢
  generalize odd = O at fin ⊢
  unfold b23f1
  simp [e_mRun, e1, ebt, hT, fin]
include F hPJ in
theorem door_ok (d : Nat) (hd : d < 4) (x8 : Option SV) (s : MS) (hs : Sd P J sc k x6 room L f b (some (.v (.int d))) s) : Ok (b23f2 s) fun fl s => fl = .next ∧ Sd P J sc k x6 room L f b (some (.v (.int d))) s := by
  obtain ⟨p, hp, x9, x10, rfl, h1, h2, h3⟩ := hs
  obtain ⟨n, hn⟩ : ∃ n : Int, n = (odds d).length := ⟨_, rfl⟩
  have hl := odds_len d
  obtain ⟨v, p', v0, v1, P', e1⟩ := r21_ok p h2 n (by omega) (by omega)
  have e1 := e1 hp P h1
  have ha := odd_at d hd
  have hpl : ∀ s, pLen [.v (.lst (odds d))] s = .ok (.v (.int n)) s := fun s => by
    have hz : (odds d).length ≤ sizeLine := by rw [szl]; omega
    rw [hn]
    unfold pLen
    simp [lstOf, cont, hz]
  have hmem : ∀ x ∈ cutM (odds d) (some v) none ++ cutM (odds d) none (some v), x ∈ odds d := fun x hx => by
    rcases List.mem_append.mp hx with h | h <;> exact cut_mem h
  have key := forGo_ok (chk := fun _ => True) (tg := gN 10) (body := b23f1) (Sd P J sc k x6 room L f b (some (.v (.int d)))) (fun _ _ => trivial) (cutM (odds d) (some v) none ++ cutM (odds d) none (some v))
    ⟨[sc, some (.own (.lst both)), some (.own (.lst odd)), k, some (.v (.ref P)), some (.v (.ref J)), x6, some (.v (.str (txt (tds L 0 room f none)))), some (.v (.int d)), some (.v (.int v)), x10], hp.set P (PB p'), b⟩
    ⟨p', _, _, _, rfl, set_at h1, P', by rw [List.getElem?_set_ne hPJ]; exact h3⟩ fun x hx s ⟨q, hq, y9, y10, es, g1, g2, g3⟩ => by
      subst es
      exact ⟨_, rfl, item_ok P J sc k x6 room L f F b d hd x (hmem x hx) q hq y9 g1 g2 g3⟩
  obtain ⟨fl, s', e, rfl, q⟩ := key.get
  have c1 := cut_len (odds d) (some v) none
  have c2 := cut_len (odds d) none (some v)
  have c3 : (cutM (odds d) (some v) none).length + (cutM (odds d) none (some v)).length ≤ sizeLine := by rw [szl]; omega
  obtain ⟨A, hA⟩ : ∃ A, A = cutM (odds d) (some v) none := ⟨_, rfl⟩
  obtain ⟨A2, hA2⟩ : ∃ A, A = cutM (odds d) none (some v) := ⟨_, rfl⟩
  rw [← hA, ← hA2] at e c3
  generalize both = B at e ⊢
  generalize odd = O at e ha ⊢
  generalize odds d = D at ha hpl hA hA2
  unfold b23f2
  simp [e_mRun, ha, hpl, e1, ← hA, ← hA2, c3, e_For, e_Mt]
  simp [e, q]
end

theorem okOf {α : Type} {o : Out α} {Q : α → MS → Prop} {a : α} {s : MS} (e : o = .ok a s) (h : Q a s) : Ok o Q := by rw [e]; exact h
def Inv9 (P J : Nat) (sc k : Option SV) (room : Int) (b : Nat) (B O : List MV) (i : Nat) (s : MS) : Prop := ∃ (p : Int × Int) (hp : List MO) (L : KL) (f : Int) (x6 x7 x8 x9 x10 : Option SV),
  s = ⟨[sc, some (.own (.lst B)), some (.own (.lst O)), k, some (.v (.ref P)), some (.v (.ref J)), x6, x7, x8, x9, x10], hp, b⟩ ∧ hp[P]? = some (PB p) ∧ OkP p ∧ hp[J]? = some (Jn room (loL L 0) 0 f (enV none)) ∧ Fit L 0 room f none ∧ L.length ≤ 6 * i
theorem piece_ok (P J : Nat) (hPJ : P ≠ J) (sc k : Option SV) (room : Int) (b : Nat) (B O : List MV) (i : Nat) (hi : i < 6) (p : Int × Int) (hp : List MO) (L : KL) (f : Int) (x6 x7 x8 x9 x10 : Option SV) (h1 : hp[P]? = some (PB p)) (h2 : OkP p) (h3 : hp[J]? = some (Jn room (loL L 0) 0 f (enV none))) (F : Fit L 0 room f none) (hL : L.length ≤ 6 * i) :
    Ok (b23f0 ⟨[sc, some (.own (.lst B)), some (.own (.lst O)), k, some (.v (.ref P)), some (.v (.ref J)), x6, x7, x8, x9, x10], hp, b⟩) fun fl s => fl = .next ∧ Inv9 P J sc k room b B O (i + 1) s := by
  obtain ⟨a, p2, a0, a1, P2, e2⟩ := r21_ok p h2 12 (by decide) (by decide)
  obtain ⟨v3, p3, v30, v31, P3, e3⟩ := r21_ok p2 P2 6 (by decide) (by decide)
  obtain ⟨z, p4, P4, lz, hz, e4⟩ := r22_ok p3 P3 (1 + v3) (by omega) (by omega)
  have hz6 : z.length ≤ 6 := by omega
  have hz0 : z ≠ [] := by intro e; subst e; simp at hz; omega
  obtain ⟨f', hff, F', htk⟩ := take_both F a0 lz hz0 (by omega)
  have hJ : (hp.set P (PB p4))[J]? = some (Jn room (loL L 0) 0 f (enV none)) := by rw [List.getElem?_set_ne hPJ]; exact h3
  have etk := htk _ J hJ
  have hA : (addW L (0 + room) none a z).length ≤ 6 := by
    have := List.length_filter_le (fun p : Int × Nat => newW L (0 + room) none p.1) (pcs a z)
    rw [pcs_len] at this
    exact Nat.le_trans this hz6
  have fin : Inv9 P J sc k room b B O (i + 1) ⟨[sc, some (.own (.lst B)), some (.own (.lst O)), k, some (.v (.ref P)), some (.v (.ref J)), x6, x7, x8, x9, x10], (hp.set P (PB p4)).set J (Jn room (loL (L ++ addW L (0 + room) none a z) 0) 0 f' (enV none)), b⟩ :=
    ⟨p4, _, L ++ addW L (0 + room) none a z, f', _, _, _, _, _, rfl, by rw [List.getElem?_set_ne (Ne.symm hPJ)]; exact set_at h1, P4, set_at hJ, F', by rw [List.length_append]; omega⟩
  obtain ⟨A, hA'⟩ : ∃ A, A = addW L (0 + room) none a z := ⟨_, rfl⟩
  rw [← hA'] at etk fin
  obtain ⟨M, hM⟩ : ∃ M, M = loL L 0 := ⟨_, rfl⟩
  obtain ⟨M', hM'⟩ : ∃ M', M' = loL (L ++ A) 0 := ⟨_, rfl⟩
  rw [← hM] at hJ h3
  rw [← hM'] at etk fin
  simp only [enV_n] at hJ h3 etk fin
  unfold b23f0
  simp [e_mRun, e2 _ _ h1, e3 _ _ (set_at h1), e4 _ _ (set_at h1), hJ, h3, etk, szl, fin]
theorem f3_ok (ns : List Int) (hn : ns.length ≤ 63) (k : Int) (x4 x5 x6 x7 x8 x9 x10 : Option SV) (hp : List MO) (b : Nat) :
    Ok (b23f3 ⟨[some (.v (.lst (ns.map .int))), some (.own (.lst both)), some (.own (.lst odd)), some (.v (.int k)), x4, x5, x6, x7, x8, x9, x10], hp, b⟩) fun fl s => fl = .next ∧ ∃ (y3 y4 y5 y6 y7 y8 y9 y10 : Option SV) (hp' : List MO), s = ⟨[some (.v (.lst (ns.map .int))), some (.own (.lst both)), some (.own (.lst odd)), y3, y4, y5, y6, y7, y8, y9, y10], hp', b⟩ := by
  obtain ⟨p0, P0, e0⟩ := r17_ok ns hn k hp
  obtain ⟨v1, p1, v10, v11, P1, e1⟩ := r21_ok p0 P0 2 (by decide) (by decide)
  obtain ⟨v3, p3, v30, v31, P3, e3⟩ := r21_ok p1 P1 6 (by decide) (by decide)
  obtain ⟨room, hroom⟩ : ∃ room, room = 1 + 399 * v1 := ⟨_, rfl⟩
  have r1 : 1 ≤ room ∧ room ≤ 400 := by omega
  obtain ⟨N, hN⟩ : ∃ N, N = hp.length := ⟨_, rfl⟩
  have d : N ≠ N + 1 := by omega
  obtain ⟨H, hH⟩ : ∃ H, H = hp ++ [PB p3, Jn room [] 0 0 .non] := ⟨_, rfl⟩
  have g : ∀ j, H[N + j]? = [PB p3, Jn room [] 0 0 .non][j]? := fun j => by
    rw [hH, List.getElem?_append_right (by omega)]; congr 1; omega
  have F0 := Fit.new r1.1 r1.2
  have key := forRange (j := 6) (body := b23f0) v3.toNat (Inv9 N (N + 1) (some (.v (.lst (ns.map .int)))) (some (.v (.int k))) room b both odd)
    ⟨[some (.v (.lst (ns.map .int))), some (.own (.lst both)), some (.own (.lst odd)), some (.v (.int k)), some (.v (.ref N)), some (.v (.ref (N + 1))), x6, x7, x8, x9, x10], H, b⟩
    ⟨p3, H, [], 0, x6, x7, x8, x9, x10, rfl, g 0, P3, g 1, F0, by simp⟩ fun i hi s ⟨p, hp, L, f, y6, y7, y8, y9, y10, es, h1, h2, h3, h4, h5⟩ => by
      subst es
      exact ⟨_, rfl, piece_ok N (N + 1) d _ _ room b both odd i (by omega) p hp L f _ y7 y8 y9 y10 h1 h2 h3 h4 h5⟩
  obtain ⟨fl, s', e, rfl, p, hp', L, f, y6, y7, y8, y9, y10, rfl, h1, hpo, hJ, F, hL⟩ := key.get
  have ebt := r16_ok F hJ
  have key2 := forRange (j := 8) (body := b23f2) 4 (fun _ s => ∃ x8, Sd N (N + 1) (some (.v (.lst (ns.map .int)))) (some (.v (.int k))) y6 room L f b x8 s)
    ⟨[some (.v (.lst (ns.map .int))), some (.own (.lst both)), some (.own (.lst odd)), some (.v (.int k)), some (.v (.ref N)), some (.v (.ref (N + 1))), y6, some (.v (.str (txt (tds L 0 room f none)))), y8, y9, y10], hp', b⟩
    ⟨_, p, hp', y9, y10, rfl, h1, hpo, hJ⟩ fun i hi s ⟨x8, q, hq, z9, z10, es, g1, g2, g3⟩ => by
      subst es
      refine ⟨_, rfl, ?_⟩
      have := door_ok N (N + 1) d (some (.v (.lst (ns.map .int)))) (some (.v (.int k))) y6 room L f F b i hi none _ ⟨q, hq, z9, z10, rfl, g1, g2, g3⟩
      obtain ⟨fl, s', e, rfl, r⟩ := this.get
      exact okOf e ⟨rfl, _, r⟩
  obtain ⟨fl, s', e', rfl, x8, q, hq, z9, z10, rfl, g1, g2, g3⟩ := key2.get
  have hcm : CMul 399 v1 := .inr ⟨by omega, by omega⟩
  have b1 : -4611686018427387904 ≤ v3 ∧ v3 < 4611686018427387904 := by omega
  have mk := r2_ok room r1.1 r1.2 (hp ++ [PB p1])
  rw [show (hp ++ [PB p1]).length = N + 1 by simp [hN]] at mk
  simp at mk
  have ga : ∀ (l : List MO) (p q : Int × Int), (hp ++ PB p :: l)[N]? = some (PB p) := fun l p q => by rw [hN]; simp
  have gs : ∀ (l : List MO) (p q : Int × Int), (hp ++ PB p :: l).set N (PB q) = hp ++ PB q :: l := fun l p q => by rw [hN]; simp
  have r4 : (List.range 4).map (fun i : Nat => MV.int i) = [.int 0, .int 1, .int 2, .int 3] := rfl
  rw [hH] at e
  rw [r4] at e'
  obtain ⟨T, hT⟩ : ∃ T, T = txt (tds L 0 room f none) := ⟨_, rfl⟩
  rw [← hT] at e' ebt
  generalize both = B at e e' ⊢
  generalize odd = O at e e' ⊢
  have r4' : List.range 4 = [0, 1, 2, 3] := rfl
  unfold b23f3
  simp [e_mRun, e0, ← hN, e1 _ _ (ga _ _ p0), e3 _ _ (ga _ _ p0), gs, hcm, ← hroom, mk, e_For, b1, szl] at e ⊢
  try simp only [enV_n] at hJ
  simp [e, hJ, ebt, r4', e', e_mRun]
@[simp] theorem e_addLo {i : Nat} {b : List MV} {s : MS} : opAdd (.loc i) (.own (.lst b)) s = match s.env[i]? with
  | some (some (.own (.lst a))) => if a.length + b.length ≤ sizeLine then .ok (.own (.lst (a ++ b))) s else .bad
  | _ => .bad := by
  show (match contW s (.loc i), contW s (.own (.lst b)) with
    | some (.lst a), some (.lst b) => if a.length + b.length ≤ sizeLine then Out.ok (RV.own (.lst (a ++ b))) s else .bad
    | _, _ => .bad) = _
  show (match (match s.env[i]? with | some (some (.own c)) => some c | _ => none), some (C.lst b) with
    | some (.lst a), some (.lst b) => if a.length + b.length ≤ sizeLine then Out.ok (RV.own (.lst (a ++ b))) s else .bad
    | _, _ => .bad) = _
  generalize s.env[i]? = g0
  cases g0 with
  | none => rfl
  | some x =>
    cases x with
    | none => rfl
    | some y =>
      cases y with
      | v z => rfl
      | own c => cases c <;> rfl
theorem law_true (ns : List Int) (hn : ns.length ≤ 63) : Says r23 ns := by
  obtain ⟨m, hm⟩ : ∃ m : Int, m = (if (if (12 : Int) < (ns.length : Int) then 12 else (ns.length : Int)) > 1 then (if (12 : Int) < (ns.length : Int) then 12 else (ns.length : Int)) else 1) := ⟨_, rfl⟩
  have hm2 : -4611686018427387904 ≤ m ∧ m < 4611686018427387904 := by subst hm; split <;> split <;> omega
  have key := forRange (j := 3) (body := b23f3) m.toNat (fun _ s => ∃ (x3 x4 x5 x6 x7 x8 x9 x10 : Option SV) (hp1 : List MO), s = ⟨[some (.v (.lst (ns.map .int))), some (.own (.lst both)), some (.own (.lst odd)), x3, x4, x5, x6, x7, x8, x9, x10], hp1, 0⟩)
    ⟨[some (.v (.lst (ns.map .int))), some (.own (.lst both)), some (.own (.lst odd)), none, none, none, none, none, none, none, none], [], 0⟩ ⟨_, _, _, _, _, _, _, _, _, rfl⟩
    (fun i hi s ⟨x3, x4, x5, x6, x7, x8, x9, x10, hp1, es⟩ => by
      subst es
      exact ⟨_, rfl, f3_ok ns hn i x4 x5 x6 x7 x8 x9 x10 hp1 0⟩)
  obtain ⟨fl, s', e, rfl, y3, y4, y5, y6, y7, y8, y9, y10, hp', rfl⟩ := key.get
  refine says_of ?_
  unfold b23 env0
  unfold both odd both odd0 odd1 odd2 at e
  simp [e_For, hm2, ← hm, CPow, szl] at e ⊢
  simp [e]

end L_k09
namespace L_k09
open PySem PySem.Spec PyProof.Rows L2 Mi
theorem walk {l : PySem.W.OpenLaw} {q : Program} {loose : List Str} {XP : (Str → Option Value) → Heap → Prop} {YP : World → Heap → Prop} {d : DefRec} {K : Params → PySem.W.Frag} (hn : l.most = some 63) (hdf : d.params.defaults = [])
    (hY : ∀ (w : World) (h : Heap), YP w h → (K w.params).In h)
    (F : ∀ (w : World) (mg : Str → Option Value) (fa : Addr) (h : Heap), (K w.params).In h → h.Ns mainGlobals mg → mg d.name = some (.ref fa) →
      ∃ fd : FuncData, (∀ (s : Shared) (u : Value), BindsTo s fd ⟨[u], []⟩ [("_law_script", u)]) ∧ ∀ base : Heap, (K w.params).In base → base.Ns mainGlobals mg → Mi.FnOk l.prog w (K w.params) mg base (L2.CX l.prog w) 7 fa fd ["_law_script"] (spL (K w.params))) :
    PySem.W.WalkO q loose XP YP l.row.toRowW d [] (fun f vs => PySem.call f vs) :=
  walk_top (n := 63) (k := 7) (x := "_law_script") (CX := fun w => L2.CX l.prog w) (sp := fun w => spL (K w.params)) hn (by decide) hdf ⟨rfl, by decide, by decide⟩ hY F (fun w H a ns hl hO hS => fun _ _ _ _ _ => start_law hl hO hS (law_true ns hl)) fun w H s e s1 z => no_CX z
end L_k09
open PySem PySem.W PyProof.Rows in
set_option maxRecDepth 100000 in
set_option maxHeartbeats 0 in
theorem PySem.Challenge.cw_roadbundle_k09_joiners_refuse_holds : PySem.Challenge.rw_roadbundle_k09_joiners_refuse.Holds := by
  w_on; o_law; k_head; (case hw => w_witness2)
  k_fill
  refine L_k09.walk (l := PySem.Challenge.rw_roadbundle_k09_joiners_refuse) rfl rfl (fun w h Y => PySem.W.kIn_of Y) ?F
  case F =>
    intro w mg fa h KX G hmg
    refine' L_k09.all_mk KX G hmg ?x0 ?l0 ?c0 ?k0 ?x1 ?l1 ?c1 ?k1 ?i2 ?x2 ?l2 ?c2 ?k2 ?i3 ?x3 ?l3 ?c3 ?k3 ?i4 ?x4 ?l4 ?c4 ?k4 ?x5 ?l5 ?c5 ?k5 ?x6 ?l6 ?c6 ?k6 ?x7 ?l7 ?c7 ?k7 ?i8 ?x8 ?l8 ?c8 ?k8 ?x9 ?l9 ?c9 ?k9 ?i10 ?x10 ?l10 ?c10 ?k10 ?i11 ?x11 ?l11 ?c11 ?k11 ?i12 ?x12 ?l12 ?c12 ?k12 ?i13 ?x13 ?l13 ?c13 ?k13 ?i14 ?x14 ?l14 ?c14 ?k14 ?i15 ?x15 ?l15 ?c15 ?k15 ?x16 ?l16 ?c16 ?k16 ?x17 ?l17 ?c17 ?k17 ?i18 ?x18 ?l18 ?c18 ?k18 ?i19 ?x19 ?l19 ?c19 ?k19 ?x20 ?l20 ?c20 ?k20 ?x21 ?l21 ?c21 ?k21 ?x22 ?l22 ?c22 ?k22 ?x23 ?l23 ?c23 ?k23 ?aC0 ?pg0 ?hd0 ?po0 ?sa0 ?mK0 ?kc0 ?na0_0 ?na0_1 ?na0_2 ?na0_3 ?na0_4 ?xa0 ?xL0 ?xs0 ?xi0 ?xt0 ?xl0 ?xc0 ?xp0 ?xk0 ?xe0 ?xy0 ?xh0 ?xf0 ?xq_1_0 ?xq_2_0 ?xq_3_0 ?xg0 ?xG0 ?xC0 ?xm0 ?kx_0_0 ?kx_2_0 ?kx_1_0 ?kx_3_0 ?kt_ValueError_0 ?xa1 ?xL1 ?xs1 ?xi1 ?xt1 ?xl1 ?xc1 ?xp1 ?xk1 ?xe1 ?xy1 ?xh1 ?xf1 ?xq_0_1 ?xq_2_1 ?xq_3_1 ?xg1 ?xG1 ?xC1 ?xm1 ?kx_0_1 ?kx_2_1 ?kx_1_1 ?kx_3_1 ?kt_ValueError_1 ?xa2 ?xL2 ?xs2 ?xi2 ?xt2 ?xl2 ?xc2 ?xp2 ?xk2 ?xe2 ?xy2 ?xh2 ?xf2 ?xq_0_2 ?xq_1_2 ?xq_3_2 ?xg2 ?xG2 ?xC2 ?xm2 ?kx_0_2 ?kx_2_2 ?kx_1_2 ?kx_3_2 ?kt_ValueError_2 ?xa3 ?xL3 ?xs3 ?xi3 ?xt3 ?xl3 ?xc3 ?xp3 ?xk3 ?xe3 ?xy3 ?xh3 ?xf3 ?xq_0_3 ?xq_1_3 ?xq_2_3 ?xg3 ?xG3 ?xC3 ?xm3 ?kx_0_3 ?kx_2_3 ?kx_1_3 ?kx_3_3 ?kt_ValueError_3 ?xhn ?xht ?vV ?z_ValueError ?z_abs ?z_all ?z_any ?z_bool ?z_enumerate ?z_int ?z_isinstance ?z_len ?z_max ?z_min ?z_range ?z_repr ?z_sorted ?z_str ?z_tuple ?g_LETTERS ?g_MOST_ROOM
    (case aC0 => k_is)
    (case xa0 => k_is)
    (case xa1 => k_is)
    (case xa2 => k_is)
    (case xa3 => k_is)
    (case x0 => k_is)
    (case l0 => k_is)
    (case c0 => k_is)
    (case k0 => k_is)
    (case x1 => k_is)
    (case l1 => k_is)
    (case c1 => k_is)
    (case k1 => k_is)
    (case i2 => k_is)
    (case x2 => k_is)
    (case l2 => k_is)
    (case c2 => k_is)
    (case k2 => k_is)
    (case i3 => k_is)
    (case x3 => k_is)
    (case l3 => k_is)
    (case c3 => k_is)
    (case k3 => k_is)
    (case i4 => k_is)
    (case x4 => k_is)
    (case l4 => k_is)
    (case c4 => k_is)
    (case k4 => k_is)
    (case x5 => k_is)
    (case l5 => k_is)
    (case c5 => k_is)
    (case k5 => k_is)
    (case x6 => k_is)
    (case l6 => k_is)
    (case c6 => k_is)
    (case k6 => k_is)
    (case x7 => k_is)
    (case l7 => k_is)
    (case c7 => k_is)
    (case k7 => k_is)
    (case i8 => k_is)
    (case x8 => k_is)
    (case l8 => k_is)
    (case c8 => k_is)
    (case k8 => k_is)
    (case x9 => k_is)
    (case l9 => k_is)
    (case c9 => k_is)
    (case k9 => k_is)
    (case i10 => k_is)
    (case x10 => k_is)
    (case l10 => k_is)
    (case c10 => k_is)
    (case k10 => k_is)
    (case i11 => k_is)
    (case x11 => k_is)
    (case l11 => k_is)
    (case c11 => k_is)
    (case k11 => k_is)
    (case i12 => k_is)
    (case x12 => k_is)
    (case l12 => k_is)
    (case c12 => k_is)
    (case k12 => k_is)
    (case i13 => k_is)
    (case x13 => k_is)
    (case l13 => k_is)
    (case c13 => k_is)
    (case k13 => k_is)
    (case i14 => k_is)
    (case x14 => k_is)
    (case l14 => k_is)
    (case c14 => k_is)
    (case k14 => k_is)
    (case i15 => k_is)
    (case x15 => k_is)
    (case l15 => k_is)
    (case c15 => k_is)
    (case k15 => k_is)
    (case x16 => k_is)
    (case l16 => k_is)
    (case c16 => k_is)
    (case k16 => k_is)
    (case x17 => k_is)
    (case l17 => k_is)
    (case c17 => k_is)
    (case k17 => k_is)
    (case i18 => k_is)
    (case x18 => k_is)
    (case l18 => k_is)
    (case c18 => k_is)
    (case k18 => k_is)
    (case i19 => k_is)
    (case x19 => k_is)
    (case l19 => k_is)
    (case c19 => k_is)
    (case k19 => k_is)
    (case x20 => k_is)
    (case l20 => k_is)
    (case c20 => k_is)
    (case k20 => k_is)
    (case x21 => k_is)
    (case l21 => k_is)
    (case c21 => k_is)
    (case k21 => k_is)
    (case x22 => k_is)
    (case l22 => k_is)
    (case c22 => k_is)
    (case k22 => k_is)
    (case x23 => k_is)
    (case l23 => k_is)
    (case c23 => k_is)
    (case k23 => k_is)
    (case pg0 => k_is)
    (case hd0 => k_is)
    (case po0 => k_is)
    (case sa0 => k_is)
    (case mK0 => k_is)
    (case kc0 => k_is)
    (case na0_0 => k_is)
    (case na0_1 => k_is)
    (case na0_2 => k_is)
    (case na0_3 => k_is)
    (case na0_4 => k_is)
    (case xL0 => k_is)
    (case xs0 => k_is)
    (case xi0 => k_is)
    (case xt0 => k_is)
    (case xl0 => k_is)
    (case xc0 => k_is)
    (case xp0 => k_is)
    (case xk0 => k_is)
    (case xe0 => k_is)
    (case xy0 => k_is)
    (case xh0 => k_is)
    (case xf0 => first | exact rfl | k_is)
    (case xq_1_0 => k_is)
    (case xq_2_0 => k_is)
    (case xq_3_0 => k_is)
    (case xg0 => k_is)
    (case xG0 => k_is)
    (case xC0 => k_is)
    (case xm0 => k_is)
    (case kx_0_0 => kit_is)
    (case kx_2_0 => kit_is)
    (case kx_1_0 => kit_is)
    (case kx_3_0 => kit_is)
    (case kt_ValueError_0 => kit_is)
    (case xL1 => k_is)
    (case xs1 => k_is)
    (case xi1 => k_is)
    (case xt1 => k_is)
    (case xl1 => k_is)
    (case xc1 => k_is)
    (case xp1 => k_is)
    (case xk1 => k_is)
    (case xe1 => k_is)
    (case xy1 => k_is)
    (case xh1 => k_is)
    (case xf1 => first | exact rfl | k_is)
    (case xq_0_1 => k_is)
    (case xq_2_1 => k_is)
    (case xq_3_1 => k_is)
    (case xg1 => k_is)
    (case xG1 => k_is)
    (case xC1 => k_is)
    (case xm1 => k_is)
    (case kx_0_1 => kit_is)
    (case kx_2_1 => kit_is)
    (case kx_1_1 => kit_is)
    (case kx_3_1 => kit_is)
    (case kt_ValueError_1 => kit_is)
    (case xL2 => k_is)
    (case xs2 => k_is)
    (case xi2 => k_is)
    (case xt2 => k_is)
    (case xl2 => k_is)
    (case xc2 => k_is)
    (case xp2 => k_is)
    (case xk2 => k_is)
    (case xe2 => k_is)
    (case xy2 => k_is)
    (case xh2 => k_is)
    (case xf2 => first | exact rfl | k_is)
    (case xq_0_2 => k_is)
    (case xq_1_2 => k_is)
    (case xq_3_2 => k_is)
    (case xg2 => k_is)
    (case xG2 => k_is)
    (case xC2 => k_is)
    (case xm2 => k_is)
    (case kx_0_2 => kit_is)
    (case kx_2_2 => kit_is)
    (case kx_1_2 => kit_is)
    (case kx_3_2 => kit_is)
    (case kt_ValueError_2 => kit_is)
    (case xL3 => k_is)
    (case xs3 => k_is)
    (case xi3 => k_is)
    (case xt3 => k_is)
    (case xl3 => k_is)
    (case xc3 => k_is)
    (case xp3 => k_is)
    (case xk3 => k_is)
    (case xe3 => k_is)
    (case xy3 => k_is)
    (case xh3 => k_is)
    (case xf3 => first | exact rfl | k_is)
    (case xq_0_3 => k_is)
    (case xq_1_3 => k_is)
    (case xq_2_3 => k_is)
    (case xg3 => k_is)
    (case xG3 => k_is)
    (case xC3 => k_is)
    (case xm3 => k_is)
    (case kx_0_3 => kit_is)
    (case kx_2_3 => kit_is)
    (case kx_1_3 => kit_is)
    (case kx_3_3 => kit_is)
    (case kt_ValueError_3 => kit_is)
    (case xhn => k_is)
    (case xht => k_is)
    (case vV => k_is)
    (case z_ValueError => k_is)
    (case z_abs => k_is)
    (case z_all => k_is)
    (case z_any => k_is)
    (case z_bool => k_is)
    (case z_enumerate => k_is)
    (case z_int => k_is)
    (case z_isinstance => k_is)
    (case z_len => k_is)
    (case z_max => k_is)
    (case z_min => k_is)
    (case z_range => k_is)
    (case z_repr => k_is)
    (case z_sorted => k_is)
    (case z_str => k_is)
    (case z_tuple => k_is)
    (case g_LETTERS => k_is)
    (case g_MOST_ROOM => k_is)
