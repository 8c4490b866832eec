import PyProof.Rows.All
import Wide.All
import OpenK.AllK
import Wide.FinOn
import KE.KStateDown
import HandS.ForMost
import HandS.Exc
import HandS.ExcOwn
import HandS.ExcInit
import HandS.TryOnly
import HandS.WordsExc
import HandS.Defaults
import HandS.Walk
import HandS.Deep
import HandS.Wide
import HandS.WideBits
import HandS.Set
import HandS.Strs
import HandS.Conv
import HandS.Style
import HandS.IsInst
import PyProof.ReprLen
import HandS.SortInts
import HandS.ClsMeth
import HandS.Head0
import HandS.Head1
import HandS.Head2
import HandS.HeadEnd
import HandS.HeadHook1
import HandS.HeadHook2
import HandS.TupSets
import HandS.EndBits
import HandS.WordsDict
import HandS.Dict
import HandS.More
import HandS.RaiseMore
import HandS.SlotsOwn
import PyProof.InstNe
import HandS.FStr
import PyProof.ReprRoads
import HandS.TupAny
import HandS.SetFor
import HandS.Iter
import HandS.ListItems
import HandS.DictComp
import HandS.ExcField
import HandS.ExcIs
import HandS.TryMany
import KE.KExcInit
import KE.KExcIs
import PySem.Challenge.RW_noaslong_k32_whole_rings_and_fences
set_option Elab.async false
set_option linter.all false
set_option maxRecDepth 100000
set_option maxHeartbeats 0
/-! ## functions whose promise may lean on there being no guard around -/
namespace A
open PySem PySem.Spec L2 PyProof.Rows
abbrev St := L2.St

structure RoomG (k : Nat) (A : Around) : Prop where
  room : Room k A
  gd : A.guards = some []
theorem RoomG.mono {j k : Nat} {A : Around} (r : RoomG k A) (h : j ≤ k) : RoomG j A := ⟨r.room.mono h, r.gd⟩
theorem RoomG.deeper {k : Nat} {A : Around} (r : RoomG (k + 1) A) (env : Env) : RoomG k (A.deeper env) := ⟨r.room.deeper env, r.gd⟩
theorem RoomG.make {k : Nat} {A : Around} (r : RoomG (k + 1) A) (C : Addr) (us : List Value) (kw : List (Str × Value)) :
    RoomG k (A.under (.builtin "type.__call__" ⟨.ref C :: us, kw⟩)) := by
  refine ⟨r.room.make C us kw, ?_⟩
  have e := r.gd
  first
    | exact e
    | (simp [Around.under, Code.guards, Code.isGuard, guardIds, pushGuards, e])

abbrev XT (P : Program) (w : World) : CXT := L2.CX P w

structure FnG (P : Program) (w : World) (K : PySem.W.Frag) (mg : Str → Option Value) (base : Heap) (k : Nat) (f : Addr) (fd : FuncData) (ps : List Str) (sp : Sp) : Prop where
  len : ∀ vs H Q E, sp vs H Q E → vs.length = ps.length
  run : ∀ (A : Around) (outer : List Env) (s : Shared) (H : Hp) (args : Args) (us : List Value) (vs : List V) (Q : VK) (E : XK), RoomG k A → Env0 P w K mg base A outer s H →
    BindsTo s fd args (ps.zip us) → Vals vs us → sp vs H Q E → codeAny (model P w) A (.call (.ref f) args) (CR (XT P w) outer P w H s Q E) s
section
variable {P : Program} {w : World} {K : PySem.W.Frag} {mg : Str → Option Value} {base : Heap}
theorem FnG.mono {j k : Nat} {f : Addr} {fd : FuncData} {ps : List Str} {sp : Sp} (F : FnG P w K mg base j f fd ps sp) (h : j ≤ k) : FnG P w K mg base k f fd ps sp :=
  ⟨F.len, fun A o s H a us vs Q E hr => F.run A o s H a us vs Q E (hr.mono h)⟩
theorem FnG.imp {k : Nat} {f : Addr} {fd : FuncData} {ps : List Str} {sp sp' : Sp} (F : FnG P w K mg base k f fd ps sp) (h : ∀ vs H Q E, sp' vs H Q E → sp vs H Q E) : FnG P w K mg base k f fd ps sp' :=
  ⟨fun vs H Q E q => F.len vs H Q E (h vs H Q E q), fun A o s H a us vs Q E hr e b v q => F.run A o s H a us vs Q E hr e b v (h vs H Q E q)⟩

/-- a def by its body, as FunD tells it -/
theorem fnG_of {x qual : Str} {params : Arguments} {body : List Stmt} {scope : Scope} {dvs : List V} {kws : List (Str × V)} {f : Addr} {fd : FuncData} {N ps : List Str} {k : Nat} {sp : Sp}
    (F : FunD K x qual params body scope dvs kws f fd) (S : FnScope N ps scope) (len : ∀ vs H Q E, sp vs H Q E → vs.length = ps.length)
    (hb : ∀ (cdv : Value) (A : Around) (outer : List Env) (s : Shared) (H : Hp) (vs : List V) (Q : VK) (E : XK), RoomG k (A.deeper (envOfC qual scope s.heap.objs.size f cdv)) → sp vs H Q E →
      ∃ t, PSs (cxOf (XT P w) P w K mg base N qual scope f cdv A outer s H E) body t ∧ t { nx := fun _ H' => Q .non H', rt := Q } (start N vs) H) :
    FnG P w K mg base (k + 1) f fd ps sp := by
  obtain ⟨oc, od, dV, kV, doc, pm, an, cdv, ct, osl, efd, lk, hcd, _, _⟩ := F.ex
  subst efd
  refine ⟨len, fun A outer s H args us vs Q E hr e0 hbi r hsp => ?_⟩
  have keep : ∀ b o, base.get? b = some o → s.heap.get? b = some o := fun b o e => (e0.bs b o e).1
  have KX : K.In s.heap := e0.mod.kin.keeps keep
  have lim : s.heap.NoLimit := e0.mod.nolimit.keeps keep
  have kinds : ∀ y ∈ ps.zip us, scope.names.lookup y.1 = some .local ∨ (scope.names.lookup y.1 = some .cell ∧ ((cellsFrom (s.heap.objs.size + 1) scope.names []).lookup y.1).isSome = true) := by
    rintro ⟨n, v⟩ hy
    cases S.par n (List.of_mem_zip hy).1 with
    | inl q => exact Or.inl q
    | inr q => exact Or.inr ⟨q, PySem.W.cellsFrom_some _ _ _ (Or.inl q)⟩
  refine codeAny_call_function hr.room.depth (KX _ _ lk) rfl S.co S.gen rfl (PySem.W.codeRec_of KX hcd) (hbi _ _ _ _ ?_)
  refine wpAny_newFunctionEnv_cells S.kind kinds fun env he s1 xc => ?_
  subst he
  refine ⟨lim.keeps xc.toInCall.keep, codeAny_func ?_⟩
  obtain ⟨t, ht, hq⟩ := hb cdv A outer s H vs Q E (hr.deeper _) hsp
  have I := inv_start (CX := XT P w) (mg := mg) (base := base) (E := E) S hr.room.hd e0 (len _ _ _ _ hsp) r xc
  refine wpAny_mono (ht.run [] s1 (start N vs) H _ I hq) (fun fl s' hs => ?_) (fun e s' hs => hs)
  have fin : ∀ {σ' : St} {H' : Hp} {v : V} {u : Value}, Inv (cxOf (XT P w) P w K mg base N qual scope f cdv A outer s H E) [] σ' H' s' → RelV v u → Q v H' → CE outer P w H s Q u s' := by
    intro σ' H' v u J rv q
    exact ⟨v, H', J.os, J.bare, J.base, J.hok, rv, q⟩
  cases fl with
  | next =>
    obtain ⟨σ', H', J, q⟩ := hs
    exact fin (v := .non) (u := .none) J rfl q
  | ret u =>
    obtain ⟨v, σ', H', J, rv, q⟩ := hs
    exact fin J rv q
  | brk =>
    obtain ⟨_, _, _, q⟩ := hs
    exact q.elim
  | cont =>
    obtain ⟨_, _, _, q⟩ := hs
    exact q.elim
end

section
variable {X : Cx} {k : Nat} {f C : Addr} {fd : FuncData} {ps ks : List Str} {sp : Sp} {x m : Str} {p pos apos : Pos} {e o : Expr} {es : List Expr} {kws : List Keyword} {W : WX}
/-- what the callee tells lies as this body wants it -/
theorem went {pins : List (Addr × Obj)} {σ : St} {H : Hp} {s s' : Shared} {Q : VK} {r : Result} (tk : Takes X W) (I : Inv X pins σ H s) (h : CR (XT X.prog X.w) X.stack X.prog X.w H s Q (WE W σ) r s') :
    match r with | .ok (.ret v) => EP X pins σ Q v s' | .ok _ => False | .error e => X.xe e s' := by
  cases r with
  | error e => exact passAt tk σ pins H s e s' I h
  | ok fl =>
    cases fl with
    | ret u => exact I.after h
    | next => exact h
    | brk => exact h
    | cont => exact h
/-- the callee runs: any arguments args that bind to the values us in the parameters' order -/
theorem run_g {pins : List (Addr × Obj)} {σ : St} {H : Hp} {s : Shared} {Q : VK} {us : List Value} {vs : List V} {pa : List Value} {kw : List (Str × Value)} (F : FnG X.prog X.w X.K X.mg X.base k f fd ps sp) (hr : RoomG k X.A)
    (tk : Takes X W) (I : Inv X pins σ H s) (hb : BindsTo s fd ⟨pa, kw⟩ (ps.zip us)) (r : Vals vs us) (h : sp vs H Q (WE W σ)) :
    wpAny (model X.prog X.w) X.A (call (.ref f) pa kw) (EP X pins σ Q) X.xe s := by
  refine wpAny_call (codeAny_mono (F.run X.A X.stack s H ⟨pa, kw⟩ us vs Q (WE W σ) hr I.env0 hb r h) fun r s' hq => ?_)
  have := went tk I hq
  cases r with
  | error e => exact this
  | ok fl => cases fl <;> exact this
/-- an instance is made, its __init__ runs -/
theorem run_mk {pins : List (Addr × Obj)} {σ : St} {H : Hp} {s : Shared} {Q : VK} {pa : List Value} {kw : List (Str × Value)} (M : Mk X.K C f) (F : FnG X.prog X.w X.K X.mg X.base k f fd ps sp) (hr : RoomG (k + 1) X.A)
    (tk : Takes X W) (I : Inv X pins σ H s) (bnd : List Value → List Value) (bV : List V → List V) (hb : ∀ (s : Shared) (y : Value), X.K.In s.heap → BindsTo s fd ⟨y :: pa, kw⟩ (ps.zip (y :: bnd pa))) {vs : List V} (r : Vals (bV vs) (bnd pa))
    (h : ∀ y dx, H y = none → H dx = none → dx ≠ y → sp (.ref y :: bV vs) (upd (upd H dx (.own y)) y (.ins C dx [])) (fun v H2 => v = .non ∧ Q (.ref y) H2) (WE W σ)) :
    wpAny (model X.prog X.w) X.A (call (.ref C) pa kw) (EP X pins σ Q) X.xe s := by
  have hq := h (s.heap.objs.size + 1) s.heap.objs.size (I.hok.fresh (Nat.le_succ _)) (I.hok.fresh (Nat.le_refl _)) (Nat.ne_of_lt (Nat.lt_succ_self _))
  have I2 := Inv.made (C := C) I
  have r2 : Vals (V.ref (s.heap.objs.size + 1) :: bV vs) (Value.ref (s.heap.objs.size + 1) :: bnd pa) := .cons rfl r
  refine wpAny_call (make_map (f := f) I.kIn M.makes M.init (beq_iff_eq.mp M.fn) (codeAny_mono (F.run _ X.stack _ _ ⟨Value.ref (s.heap.objs.size + 1) :: pa, kw⟩ (Value.ref (s.heap.objs.size + 1) :: bnd pa) _ _ (WE W σ)
    (hr.make C pa kw) (I2.env0.make C pa kw) (hb _ _ I2.kIn) r2 hq) fun r s' hq' => ?_))
  have z := went tk I2 hq'
  cases r with
  | error e => exact z
  | ok fl =>
    cases fl with
    | ret u =>
      obtain ⟨v, H', I3, rv, ev, q3⟩ := z
      subst ev
      exact ⟨rv, ⟨V.ref (s.heap.objs.size + 1), H', I3, rfl, q3⟩⟩
    | next => exact z.elim
    | brk => exact z.elim
    | cont => exact z.elim
end
end A

/-! ## what is known of values and of the heap: data that nobody changes (D), and objects that are somebody's own (Cell) -/
namespace A
open PySem PySem.Spec L2 PyProof.Rows

structure KW where
  K : PySem.W.Frag
  w : World
abbrev _root_.L2.Cx.kw (X : Cx) : KW := ⟨X.K, X.w⟩

inductive D where
  | non | bl (b : Bool) | int (i : Int) | str (x : Str) | ty (n : String)
  | lst (l : List D) | tup (l : List D) | set (l : List Int) | own (a : Addr) | scr (l : List Int)
  | exc (a : Addr) (dd : Option Addr) (ns : List Str) (ds : List D)

inductive Cell where
  | lst (l : List D) | dct (l : List (Key × D)) | ins (C : Addr) (fs : List (Str × D)) | pot | dtt (l : List (List Key × D))

abbrev Sto := Addr → Option Cell
def put (S : Sto) (a : Addr) (c : Cell) : Sto := fun b => if b = a then some c else S b
theorem put_same {S : Sto} {a : Addr} {c : Cell} : put S a c a = some c := if_pos rfl
theorem put_ne {S : Sto} {a b : Addr} {c : Cell} (h : b ≠ a) : put S a c b = S b := if_neg h
theorem put_old {S : Sto} {a b : Addr} {c c' : Cell} (h : S b = some c') (n : S a = none) : put S a c b = some c' := by
  rw [put_ne]
  · exact h
  · rintro rfl
    rw [n] at h
    cases h
theorem put_put {S : Sto} {a : Addr} {c c' : Cell} : put (put S a c) a c' = put S a c' := by
  funext b
  unfold put
  split <;> rfl
theorem put_id {S : Sto} {a : Addr} {c : Cell} (h : S a = some c) : put S a c = S := by
  funext b
  unfold put
  split
  · rename_i e; rw [e, h]
  · rfl
/-- no more than -/
def Sub (S T : Sto) : Prop := ∀ a c, S a = some c → T a = some c
theorem Sub.refl (S : Sto) : Sub S S := fun _ _ h => h
theorem Sub.trans {S T U : Sto} (h : Sub S T) (k : Sub T U) : Sub S U := fun a c e => k a c (h a c e)
theorem Sub.put {S T : Sto} {a : Addr} {c : Cell} (h : Sub S T) (n : S a = none) : Sub S (put T a c) := fun b x e => by
  rw [put_ne]
  · exact h b x e
  · rintro rfl
    rw [n] at e
    cases e

mutual
inductive Dv (K : KW) (F : Hp) : V → D → Prop
  | non : Dv K F .non .non
  | bl (b : Bool) : Dv K F (.bl b) (.bl b)
  | int (i : Int) : Dv K F (.int i) (.int i)
  | str (x : Str) : Dv K F (.str x) (.str x)
  | ty (n : String) : Dv K F (.ty n) (.ty n)
  | own (a : Addr) : Dv K F (.ref a) (.own a)
  | scr {a : Addr} {ns : List Int} : SqL K.K F a (ns.map V.int) → ns.length ≤ sizeLine → Dv K F (.ref a) (.scr ns)
  | lst {a : Addr} {xs : List V} {ds : List D} : F a = some (.lst xs) → ds.length ≤ sizeLine → DvL K F xs ds → Dv K F (.ref a) (.lst ds)
  | tup {a : Addr} {xs : List V} {ds : List D} : SqT K.K F a xs → ds.length ≤ sizeLine → DvL K F xs ds → Dv K F (.ref a) (.tup ds)
  | exc {a dx : Addr} {gs : List (Str × V)} {ns : List Str} {ds : List D} : F dx = some (.xd gs) → gs.map (·.1) = ns → DvL K F (gs.map (·.2)) ds → Dv K F (.ref a) (.exc a (some dx) ns ds)
  | exc0 {a : Addr} : Dv K F (.ref a) (.exc a none [] [])
  | set {a : Addr} {l : List Int} : F a = some (SetO K.w a (fun i => decide (i ∈ l)) l.length) → l.Nodup → Dv K F (.ref a) (.set l)
inductive DvL (K : KW) (F : Hp) : List V → List D → Prop
  | nil : DvL K F [] []
  | cons {v : V} {vs : List V} {d : D} {ds : List D} : Dv K F v d → DvL K F vs ds → DvL K F (v :: vs) (d :: ds)
end
theorem SqT.same {K : PySem.W.Frag} {F F' : Hp} {a : Addr} {xs : List V} (e : Same F F') (h : SqT K F a xs) : SqT K F' a xs := by
  rcases h with (h | ⟨o, h⟩) | h
  · exact Or.inl (Or.inl (e _ _ h))
  · exact Or.inl (Or.inr ⟨o, e _ _ h⟩)
  · exact Or.inr h
section
variable {K : KW} {F F' : Hp}
mutual
theorem Dv.mono (e : Same F F') : ∀ {v : V} {d : D}, Dv K F v d → Dv K F' v d
  | _, _, .non => .non
  | _, _, .bl b => .bl b
  | _, _, .int i => .int i
  | _, _, .str x => .str x
  | _, _, .ty n => .ty n
  | _, _, .own a => .own a
  | _, _, .scr h z => .scr (e.seq h) z
  | _, _, .lst h z l => .lst (e _ _ h) z (DvL.mono e l)
  | _, _, .tup h z l => .tup (SqT.same e h) z (DvL.mono e l)
  | _, _, .set h n => .set (e _ _ h) n
  | _, _, .exc h q l => .exc (e _ _ h) q (DvL.mono e l)
  | _, _, .exc0 => .exc0
theorem DvL.mono (e : Same F F') : ∀ {vs : List V} {ds : List D}, DvL K F vs ds → DvL K F' vs ds
  | _, _, .nil => .nil
  | _, _, .cons h t => .cons (Dv.mono e h) (DvL.mono e t)
end
theorem DvL.len : ∀ {vs : List V} {ds : List D}, DvL K F vs ds → vs.length = ds.length
  | _, _, .nil => rfl
  | _, _, .cons _ t => congrArg Nat.succ (DvL.len t)
theorem DvL.get : ∀ {vs : List V} {ds : List D} {i : Nat} {v : V}, DvL K F vs ds → vs[i]? = some v → ∃ d, ds[i]? = some d ∧ Dv K F v d
  | _, _, _, _, .nil, e => by simp at e
  | _, _, 0, _, .cons h _, e => by simp at e; subst e; exact ⟨_, rfl, h⟩
  | _, _, i + 1, _, .cons _ t, e => by
    obtain ⟨d, e1, e2⟩ := DvL.get (i := i) t (by simpa using e)
    exact ⟨d, by simpa using e1, e2⟩
theorem DvL.getD : ∀ {vs : List V} {ds : List D} {i : Nat} {d : D}, DvL K F vs ds → ds[i]? = some d → ∃ v, vs[i]? = some v ∧ Dv K F v d
  | _, _, _, _, .nil, e => by simp at e
  | _, _, 0, _, .cons h _, e => by simp at e; subst e; exact ⟨_, rfl, h⟩
  | _, _, i + 1, _, .cons _ t, e => by
    obtain ⟨d, e1, e2⟩ := DvL.getD (i := i) t (by simpa using e)
    exact ⟨d, by simpa using e1, e2⟩
theorem DvL.append : ∀ {vs ws : List V} {ds es : List D}, DvL K F vs ds → DvL K F ws es → DvL K F (vs ++ ws) (ds ++ es)
  | _, _, _, _, .nil, k => k
  | _, _, _, _, .cons h t, k => .cons h (DvL.append t k)
theorem DvL.take : ∀ {vs : List V} {ds : List D} (n : Nat), DvL K F vs ds → DvL K F (vs.take n) (ds.take n)
  | _, _, 0, _ => .nil
  | _, _, _ + 1, .nil => .nil
  | _, _, n + 1, .cons h t => .cons h (DvL.take n t)
theorem DvL.drop : ∀ {vs : List V} {ds : List D} (n : Nat), DvL K F vs ds → DvL K F (vs.drop n) (ds.drop n)
  | _, _, 0, h => h
  | _, _, _ + 1, .nil => .nil
  | _, _, n + 1, .cons _ t => DvL.drop n t
theorem DvL.set : ∀ {vs : List V} {ds : List D} {v : V} {d : D} (i : Nat), DvL K F vs ds → Dv K F v d → DvL K F (vs.set i v) (ds.set i d)
  | _, _, _, _, _, .nil, _ => .nil
  | _, _, _, _, 0, .cons _ t, k => .cons k t
  | _, _, _, _, i + 1, .cons h t, k => .cons h (DvL.set i t k)
theorem DvL.eraseIdx : ∀ {vs : List V} {ds : List D} (i : Nat), DvL K F vs ds → DvL K F (vs.eraseIdx i) (ds.eraseIdx i)
  | _, _, _, .nil => .nil
  | _, _, 0, .cons _ t => t
  | _, _, i + 1, .cons h t => .cons h (DvL.eraseIdx i t)
theorem DvL.reverse : ∀ {vs : List V} {ds : List D}, DvL K F vs ds → DvL K F vs.reverse ds.reverse
  | _, _, .nil => .nil
  | _, _, .cons h t => by
    rw [List.reverse_cons, List.reverse_cons]
    exact (DvL.reverse t).append (.cons h .nil)
theorem DvL.ints : ∀ (ns : List Int), DvL K F (ns.map V.int) (ns.map D.int)
  | [] => .nil
  | n :: r => .cons (.int n) (DvL.ints r)
theorem DvL.toInts : ∀ {vs : List V} {ns : List Int}, DvL K F vs (ns.map D.int) → vs = ns.map V.int
  | _, [], .nil => rfl
  | _, n :: r, .cons h t => by
    cases h
    rw [DvL.toInts t]
    rfl
theorem DvL.toBls : ∀ {vs : List V} {ns : List Bool}, DvL K F vs (ns.map D.bl) → vs = ns.map V.bl
  | _, [], .nil => rfl
  | _, n :: r, .cons h t => by
    cases h
    rw [DvL.toBls t]
    rfl
theorem DvL.toStrs : ∀ {vs : List V} {ns : List Str}, DvL K F vs (ns.map D.str) → vs = ns.map V.str
  | _, [], .nil => rfl
  | _, n :: r, .cons h t => by
    cases h
    rw [DvL.toStrs t]
    rfl
end

/-- fields, a dict's pairs -/
def DvP {κ : Type} (K : KW) (F : Hp) : List (κ × V) → List (κ × D) → Prop := Paired fun p q => p.1 = q.1 ∧ Dv K F p.2 q.2
theorem DvP.mono {κ : Type} {K : KW} {F F' : Hp} (e : Same F F') : ∀ {l : List (κ × V)} {m : List (κ × D)}, DvP K F l m → DvP K F' l m
  | _, _, .nil => .nil
  | _, _, .cons h t => .cons ⟨h.1, h.2.mono e⟩ (DvP.mono e t)
theorem DvP.lookup {κ : Type} [BEq κ] {K : KW} {F : Hp} {k : κ} : ∀ {l : List (κ × V)} {m : List (κ × D)}, DvP K F l m →
    (m.lookup k = none ∧ l.lookup k = none) ∨ ∃ d v, m.lookup k = some d ∧ l.lookup k = some v ∧ Dv K F v d
  | _, _, .nil => .inl ⟨rfl, rfl⟩
  | (k1, v) :: _, (k2, d) :: _, .cons h t => by
    have e : k1 = k2 := h.1
    subst e
    simp only [List.lookup_cons]
    cases k == k1 with
    | true => exact .inr ⟨d, v, rfl, rfl, h.2⟩
    | false => exact DvP.lookup t

/-- a pot of draws: what it holds plays no part -/
def PotOk (x y : Int) : Prop := 0 ≤ x ∧ x.natAbs.log2 < 2 ^ 20 + 64 ∧ 0 ≤ y ∧ y < 2147483648

def CellOk (K : KW) (F H : Hp) (a : Addr) : Cell → Prop
  | .lst ds => ds.length ≤ sizeLine ∧ ∃ xs, H a = some (.lst xs) ∧ DvL K F xs ds
  | .dct m => m.length ≤ sizeLine ∧ ∃ l, H a = some (.dK l) ∧ DvP K F l m
  | .ins C fs => ∃ dx gs, H a = some (.ins C dx gs) ∧ DvP K F gs fs
  | .pot => ∃ x y, H a = some (.lst [.int x, .int y]) ∧ PotOk x y
  | .dtt m => m.length ≤ sizeLine ∧ ∃ l, H a = some (.dT l) ∧ DvP K F l m
theorem CellOk.mono {K : KW} {F F' H H' : Hp} {a : Addr} {c : Cell} (h : CellOk K F H a c) (e : Same F F') (k : ∀ o, H a = some o → H' a = some o) : CellOk K F' H' a c := by
  cases c with
  | lst ds => obtain ⟨z, xs, h1, h2⟩ := h; exact ⟨z, xs, k _ h1, h2.mono e⟩
  | dct m => obtain ⟨z, l, h1, h2⟩ := h; exact ⟨z, l, k _ h1, h2.mono e⟩
  | ins C fs => obtain ⟨dx, gs, h1, h2⟩ := h; exact ⟨dx, gs, k _ h1, h2.mono e⟩
  | pot => obtain ⟨x, y, h1, h2⟩ := h; exact ⟨x, y, k _ h1, h2⟩
  | dtt m => obtain ⟨z, l, h1, h2⟩ := h; exact ⟨z, l, k _ h1, h2.mono e⟩
theorem CellOk.there {K : KW} {F H : Hp} {a : Addr} {c : Cell} (h : CellOk K F H a c) : ∃ o, H a = some o := by
  cases c with
  | lst ds => obtain ⟨_, xs, h1, _⟩ := h; exact ⟨_, h1⟩
  | dct m => obtain ⟨_, l, h1, _⟩ := h; exact ⟨_, h1⟩
  | ins C fs => obtain ⟨dx, gs, h1, _⟩ := h; exact ⟨_, h1⟩
  | pot => obtain ⟨x, y, h1, _⟩ := h; exact ⟨_, h1⟩
  | dtt m => obtain ⟨_, l, h1, _⟩ := h; exact ⟨_, h1⟩

/-- F: data; S: one's own objects; R: others' own objects, that no one touches -/
structure Sta (K : KW) (F : Hp) (S R : Sto) (H : Hp) : Prop where
  le : Same F H
  own : ∀ a c, S a = some c → F a = none ∧ CellOk K F H a c
  hid : ∀ a c, R a = some c → F a = none ∧ S a = none ∧ CellOk K F H a c
section
variable {K : KW} {F F' H H' : Hp} {S R : Sto} {p a : Addr} {o : HO} {c c' : Cell}
theorem same_upd (h : F p = none) : Same F (upd F p o) := fun b u e => by
  rw [upd_ne (ne_of_none e h)]
  exact e
theorem Sta.free (T : Sta K F S R H) (h : H p = none) : F p = none ∧ S p = none ∧ R p = none := by
  refine ⟨T.le.free h, ?_, ?_⟩
  · cases e : S p with
    | none => rfl
    | some c =>
      obtain ⟨u, hu⟩ := (T.own p c e).2.there
      rw [h] at hu
      cases hu
  · cases e : R p with
    | none => rfl
    | some c =>
      obtain ⟨u, hu⟩ := (T.hid p c e).2.2.there
      rw [h] at hu
      cases hu
/-- a new object that is data -/
theorem Sta.frozen (T : Sta K F S R H) (h : H p = none) : Sta K (upd F p o) S R (upd H p o) := by
  obtain ⟨fF, fS, fR⟩ := T.free h
  have kF : Same F (upd F p o) := same_upd fF
  have kH : Same H (upd H p o) := same_upd h
  refine ⟨fun b u e => ?_, fun b x e => ?_, fun b x e => ?_⟩
  · by_cases q : b = p
    · subst q; rw [upd_same] at e ⊢; exact e
    · rw [upd_ne q] at e ⊢; exact T.le b u e
  · have q : b ≠ p := by rintro rfl; rw [fS] at e; cases e
    obtain ⟨h1, h2⟩ := T.own b x e
    exact ⟨by rw [upd_ne q]; exact h1, h2.mono kF fun u z => kH b u z⟩
  · have q : b ≠ p := by rintro rfl; rw [fR] at e; cases e
    obtain ⟨h1, h3, h2⟩ := T.hid b x e
    exact ⟨by rw [upd_ne q]; exact h1, h3, h2.mono kF fun u z => kH b u z⟩
/-- a new object of one's own -/
theorem Sta.owned (T : Sta K F S R H) (h : H p = none) (hc : CellOk K F (upd H p o) p c) : Sta K F (put S p c) R (upd H p o) := by
  obtain ⟨fF, fS, fR⟩ := T.free h
  have kH : Same H (upd H p o) := same_upd h
  refine ⟨T.le.trans kH, fun b x e => ?_, fun b x e => ?_⟩
  · by_cases q : b = p
    · subst q; rw [put_same] at e; cases e; exact ⟨fF, hc⟩
    · rw [put_ne q] at e
      obtain ⟨h1, h2⟩ := T.own b x e
      exact ⟨h1, h2.mono (Same.refl _) fun u z => kH b u z⟩
  · have q : b ≠ p := by rintro rfl; rw [fR] at e; cases e
    obtain ⟨h1, h3, h2⟩ := T.hid b x e
    exact ⟨h1, by rw [put_ne q]; exact h3, h2.mono (Same.refl _) fun u z => kH b u z⟩
/-- one's own object is changed -/
theorem Sta.write (T : Sta K F S R H) (h : S a = some c) (hc : CellOk K F (upd H a o) a c') : Sta K F (put S a c') R (upd H a o) := by
  have fF := (T.own a c h).1
  refine ⟨fun b u e => ?_, fun b x e => ?_, fun b x e => ?_⟩
  · rw [upd_ne (ne_of_none e fF)]; exact T.le b u e
  · by_cases q : b = a
    · subst q; rw [put_same] at e; cases e; exact ⟨fF, hc⟩
    · rw [put_ne q] at e
      obtain ⟨h1, h2⟩ := T.own b x e
      exact ⟨h1, h2.mono (Same.refl _) fun u z => by rw [upd_ne q]; exact z⟩
  · have q : b ≠ a := by rintro rfl; rw [(T.hid b x e).2.1] at h; cases h
    obtain ⟨h1, h3, h2⟩ := T.hid b x e
    exact ⟨h1, by rw [put_ne q]; exact h3, h2.mono (Same.refl _) fun u z => by rw [upd_ne q]; exact z⟩
/-- what plays no part any more is forgotten -/
theorem Sta.drop {S' : Sto} (T : Sta K F S R H) (h : Sub S' S) : Sta K F S' R H :=
  ⟨T.le, fun b x e => T.own b x (h b x e), fun b x e => by
    obtain ⟨h1, h3, h2⟩ := T.hid b x e
    refine ⟨h1, ?_, h2⟩
    cases q : S' b with
    | none => rfl
    | some y => rw [h b y q] at h3; cases h3⟩
/-- a new object that is hidden -/
theorem Sta.hide (T : Sta K F S R H) (h : H p = none) (hc : CellOk K F (upd H p o) p c) : Sta K F S (put R p c) (upd H p o) := by
  obtain ⟨fF, fS, fR⟩ := T.free h
  have kH : Same H (upd H p o) := same_upd h
  refine ⟨T.le.trans kH, fun b x e => ?_, fun b x e => ?_⟩
  · obtain ⟨h1, h2⟩ := T.own b x e
    exact ⟨h1, h2.mono (Same.refl _) fun u z => kH b u z⟩
  · by_cases q : b = p
    · subst q; rw [put_same] at e; cases e; exact ⟨fF, fS, hc⟩
    · rw [put_ne q] at e
      obtain ⟨h1, h3, h2⟩ := T.hid b x e
      exact ⟨h1, h3, h2.mono (Same.refl _) fun u z => kH b u z⟩
/-- a hidden object is changed -/
theorem Sta.hwrite (T : Sta K F S (put R p c) H) (hc : CellOk K F (upd H p o) p c') : Sta K F S (put R p c') (upd H p o) := by
  obtain ⟨fF, fS, _⟩ := T.hid p c put_same
  refine ⟨fun b u e => ?_, fun b x e => ?_, fun b x e => ?_⟩
  · rw [upd_ne (ne_of_none e fF)]; exact T.le b u e
  · have q : b ≠ p := by rintro rfl; rw [fS] at e; cases e
    obtain ⟨h1, h2⟩ := T.own b x e
    exact ⟨h1, h2.mono (Same.refl _) fun u z => by rw [upd_ne q]; exact z⟩
  · by_cases q : b = p
    · subst q; rw [put_same] at e; cases e; exact ⟨fF, fS, hc⟩
    · rw [put_ne q] at e
      obtain ⟨h1, h3, h2⟩ := T.hid b x (by rw [put_ne q]; exact e)
      exact ⟨h1, h3, h2.mono (Same.refl _) fun u z => by rw [upd_ne q]; exact z⟩
/-- a hidden list becomes one's own -/
theorem Sta.show (T : Sta K F S (put R p c) H) (hR : R p = none) : Sta K F (put S p c) R H := by
  obtain ⟨fF, fS, h0⟩ := T.hid p c put_same
  refine ⟨T.le, fun b x e => ?_, fun b x e => ?_⟩
  · by_cases q : b = p
    · subst q; rw [put_same] at e; cases e; exact ⟨fF, h0⟩
    · rw [put_ne q] at e; exact T.own b x e
  · have q : b ≠ p := by rintro rfl; rw [hR] at e; cases e
    obtain ⟨h1, h3, h2⟩ := T.hid b x (by rw [put_ne q]; exact e)
    exact ⟨h1, by rw [put_ne q]; exact h3, h2⟩
/-- an object of one's own, or a hidden one, becomes data -/
theorem Sta.freeze (T : Sta K F S R H) (h : H p = some o) (hS : S p = none) (hR : R p = none) (hF : F p = none) : Sta K (upd F p o) S R H := by
  have kF : Same F (upd F p o) := same_upd hF
  refine ⟨fun b u e => ?_, fun b x e => ?_, fun b x e => ?_⟩
  · by_cases q : b = p
    · subst q; rw [upd_same] at e; rw [h]; exact e
    · rw [upd_ne q] at e; exact T.le b u e
  · have q : b ≠ p := by rintro rfl; rw [hS] at e; cases e
    obtain ⟨h1, h2⟩ := T.own b x e
    exact ⟨by rw [upd_ne q]; exact h1, h2.mono kF fun u z => z⟩
  · have q : b ≠ p := by rintro rfl; rw [hR] at e; cases e
    obtain ⟨h1, h3, h2⟩ := T.hid b x e
    exact ⟨by rw [upd_ne q]; exact h1, h3, h2.mono kF fun u z => z⟩
theorem Sta.unhide (T : Sta K F S (put R p c) H) (hR : R p = none) : Sta K F S R H :=
  ⟨T.le, T.own, fun b x e => T.hid b x (by rw [put_ne]; exact e; rintro rfl; rw [hR] at e; cases e)⟩
end
end A

/-! ## judgements: a piece of syntax, its reading over the heap, its reading over data -/
namespace A
open PySem PySem.Spec L2 PyProof.Rows

abbrev En := List (Option D)
abbrev KD := D → Sto → Prop
structure Xn where
  cls : Addr
  fs : List (Str × D)
abbrev KX := Xn → Sto → Prop
def noX : KX := fun _ _ => False

structure EnR (K : KW) (F : Hp) (σ : St) (ρ : En) : Prop where
  len : σ.length = ρ.length
  at_ : ∀ (i : Nat) (d : D), ρ[i]? = some (some d) → ∃ v, σ[i]? = some (some v) ∧ Dv K F v d
def XR (K : KW) (F H : Hp) (cls : Value) (dd : Option Addr) (x : Xn) : Prop :=
  cls = .ref x.cls ∧ ((dd = none ∧ x.fs = []) ∨ ∃ dx gs, dd = some dx ∧ H dx = some (.xd gs) ∧ DvP K F gs x.fs)

section
variable (K : KW) (F : Hp) (R : Sto)
def Post (Q : KD) (P : VK) : Prop := ∀ v H' F' S' d, Same F F' → Sta K F' S' R H' → Dv K F' v d → Q d S' → P v H'
def PostL (Q : List D → Sto → Prop) (P : List V → Hp → Prop) : Prop := ∀ vs H' F' S' ds, Same F F' → Sta K F' S' R H' → DvL K F' vs ds → Q ds S' → P vs H'
def PostB (Q : Bool → Sto → Prop) (P : Bool → Hp → Prop) : Prop := ∀ b H' F' S', Same F F' → Sta K F' S' R H' → Q b S' → P b H'
def WOk (σ : St) (W : WX) (E : KX) : Prop := ∀ cls dd H' F' S' x, Same F F' → Sta K F' S' R H' → XR K F' H' cls dd x → E x S' → W cls dd σ H'
end
section
variable {K : KW} {F F' : Hp} {R : Sto} {σ : St} {ρ : En} {W : WX} {E : KX}
theorem EnR.mono (h : EnR K F σ ρ) (e : Same F F') : EnR K F' σ ρ := ⟨h.len, fun i d q => let ⟨v, h1, h2⟩ := h.at_ i d q; ⟨v, h1, h2.mono e⟩⟩
theorem Post.mono {Q : KD} {P : VK} (h : Post K F R Q P) (e : Same F F') : Post K F' R Q P := fun v H' F2 S' d k => h v H' F2 S' d (e.trans k)
theorem PostL.mono {Q : List D → Sto → Prop} {P : List V → Hp → Prop} (h : PostL K F R Q P) (e : Same F F') : PostL K F' R Q P := fun v H' F2 S' d k => h v H' F2 S' d (e.trans k)
theorem PostB.mono {Q : Bool → Sto → Prop} {P : Bool → Hp → Prop} (h : PostB K F R Q P) (e : Same F F') : PostB K F' R Q P := fun v H' F2 S' k => h v H' F2 S' (e.trans k)
theorem WOk.mono (h : WOk K F R σ W E) (e : Same F F') : WOk K F' R σ W E := fun c dd H' F2 S' x k => h c dd H' F2 S' x (e.trans k)
theorem EnR.set (h : EnR K F σ ρ) {i : Nat} {v : V} {d : D} (q : Dv K F v d) : EnR K F (σ.set i (some v)) (ρ.set i (some d)) := by
  refine ⟨by rw [List.length_set, List.length_set]; exact h.len, fun j e hj => ?_⟩
  by_cases hi : i = j
  · subst hi
    by_cases hl : i < ρ.length
    · rw [List.getElem?_set_self hl] at hj
      cases hj
      exact ⟨v, List.getElem?_set_self (by rw [h.len]; exact hl), q⟩
    · rw [List.getElem?_eq_none (by rw [List.length_set]; omega)] at hj
      cases hj
  · rw [List.getElem?_set_ne hi] at hj
    obtain ⟨u, h1, h2⟩ := h.at_ j e hj
    exact ⟨u, by rw [List.getElem?_set_ne hi]; exact h1, h2⟩
theorem EnR.unset (h : EnR K F σ ρ) {i : Nat} : EnR K F (σ.set i none) (ρ.set i none) := by
  refine ⟨by rw [List.length_set, List.length_set]; exact h.len, fun j e hj => ?_⟩
  by_cases hi : i = j
  · subst hi
    by_cases hl : i < ρ.length
    · rw [List.getElem?_set_self hl] at hj
      cases hj
    · rw [List.getElem?_eq_none (by rw [List.length_set]; omega)] at hj
      cases hj
  · rw [List.getElem?_set_ne hi] at hj
    obtain ⟨u, h1, h2⟩ := h.at_ j e hj
    exact ⟨u, by rw [List.getElem?_set_ne hi]; exact h1, h2⟩
end

abbrev AE := En → Sto → KD → KX → Prop
abbrev AT := En → Sto → (Bool → Sto → Prop) → KX → Prop
abbrev AA := En → Sto → (List D → Sto → Prop) → KX → Prop
def RE (K : KW) (W : WX) (t : TE) (a : AE) : Prop :=
  ∀ σ H F S R ρ Q E P, Sta K F S R H → EnR K F σ ρ → WOk K F R σ W E → a ρ S Q E → Post K F R Q P → t σ H P
def RT (K : KW) (W : WX) (t : TT) (a : AT) : Prop :=
  ∀ σ H F S R ρ Q E P, Sta K F S R H → EnR K F σ ρ → WOk K F R σ W E → a ρ S Q E → PostB K F R Q P → t σ H P
def RA (K : KW) (W : WX) (t : TA) (a : AA) : Prop :=
  ∀ σ H F S R ρ Q E P, Sta K F S R H → EnR K F σ ρ → WOk K F R σ W E → a ρ S Q E → PostL K F R Q P → t σ H P

structure EA (X : Cx) (W : WX) (e : Expr) (t : TE) (a : AE) : Prop where
  pe : PE X e t
  re : RE X.kw W t a
structure TstA (X : Cx) (W : WX) (e : Expr) (t : TT) (a : AT) : Prop where
  pt : PT X e t
  rt : RT X.kw W t a
structure ArA (X : Cx) (W : WX) (es : List Expr) (t : TA) (a : AA) : Prop where
  pa : PA X es t
  ra : RA X.kw W t a

/-! ### by values -/
abbrev O2 := D → D → Sto → KD → Prop
abbrev O1 := D → Sto → KD → Prop
abbrev ON := List D → Sto → KD → Prop
def R2k (K : KW) (r : R2) (a : O2) : Prop := ∀ x y d e H F S R Q P, Sta K F S R H → Dv K F x d → Dv K F y e → a d e S Q → Post K F R Q P → r x y H P
def R1k (K : KW) (r : V → Hp → VK → Prop) (a : O1) : Prop := ∀ x d H F S R Q P, Sta K F S R H → Dv K F x d → a d S Q → Post K F R Q P → r x H P
def RNk (K : KW) (r : List V → Hp → VK → Prop) (a : ON) : Prop := ∀ xs ds H F S R Q P, Sta K F S R H → DvL K F xs ds → a ds S Q → Post K F R Q P → r xs H P
def aOp (a2 : O2) (a b : AE) : AE := fun ρ S Q E => a ρ S (fun d S1 => b ρ S1 (fun e S2 => a2 d e S2 Q) E) E
def aUn (a1 : O1) (a : AE) : AE := fun ρ S Q E => a ρ S (fun d S1 => a1 d S1 Q) E
section
variable {X : Cx} {W : WX} {a b e : Expr} {ta tb : TE} {aa ab : AE} {pos : Pos}
theorem re_op {r : R2} {a2 : O2} (hr : R2k X.kw r a2) (ha : RE X.kw W ta aa) (hb : RE X.kw W tb ab) : RE X.kw W (tOp r ta tb) (aOp a2 aa ab) :=
  fun σ H F S R ρ Q E P T en wo h po => ha σ H F S R ρ _ E _ T en wo h fun v H1 F1 S1 d e1 T1 dv q =>
    hb σ H1 F1 S1 R ρ _ E _ T1 (en.mono e1) (wo.mono e1) q fun u H2 F2 S2 d2 e2 T2 dv2 q2 => hr v u d d2 H2 F2 S2 R Q P T2 (dv.mono e2) dv2 q2 (po.mono (e1.trans e2))
/-- an operator: its rule, and what it is of data -/
structure OpA (X : Cx) (f : Value → Value → Sem Value) (r : R2) (a : O2) : Prop where
  op : OpR X f r
  k : R2k X.kw r a
structure UnA (X : Cx) (f : Value → Sem Value) (r : V → Hp → VK → Prop) (a : O1) : Prop where
  op : UnR X f r
  k : R1k X.kw r a
structure CallA (X : Cx) (f : Value) (r : List V → Hp → VK → Prop) (a : ON) : Prop where
  op : CallR X f r
  k : RNk X.kw r a
theorem ea_op {op : Operator} {r : R2} {a2 : O2} (o : OpA X (binaryOp op) r a2) (ha : EA X W a ta aa) (hb : EA X W b tb ab) : EA X W (.BinOp a op b pos) (tOp r ta tb) (aOp a2 aa ab) :=
  ⟨pe_op o.op ha.pe hb.pe, re_op o.k ha.re hb.re⟩
theorem ea_cmp {op : CmpOp} {r : R2} {a2 : O2} (o : OpA X (compareOp op) r a2) (ha : EA X W a ta aa) (hb : EA X W b tb ab) (hm : behindInMarks op b = false := by first | rfl | exact nomark _) :
    EA X W (.Compare a [op] [b] pos) (tOp r ta tb) (aOp a2 aa ab) := ⟨pe_cmpR o.op ha.pe hb.pe hm, re_op o.k ha.re hb.re⟩

/-! ### names, constants -/
def atV : Option (Option D) → (D → Prop) → Prop
  | some (some d), Q => Q d
  | _, _ => False
theorem atV_ok {o : Option (Option D)} {Q : D → Prop} (h : atV o Q) : ∃ d, o = some (some d) ∧ Q d := by
  cases o with
  | none => exact (show False from h).elim
  | some o => cases o with
    | none => exact (show False from h).elim
    | some d => exact ⟨d, rfl, h⟩
def onB (f : Bool → Sto → Prop) : D → Sto → Prop
  | .bl b, S => f b S
  | _, _ => False
def onI (f : Int → Sto → Prop) : D → Sto → Prop
  | .int i, S => f i S
  | _, _ => False
def onII (f : Int → Int → Prop) : D → D → Prop
  | .int i, .int j => f i j
  | _, _ => False
def onL1 (f : Int → Prop) : List D → Prop
  | [.int i] => f i
  | _ => False
def onL2 (f : Int → Int → Prop) : List D → Prop
  | [.int i, .int j] => f i j
  | _ => False
def aVar (i : Nat) : AE := fun ρ S Q _ => atV ρ[i]? fun d => Q d S
def aC (d : D) : AE := fun _ S Q _ => Q d S
theorem ea_v (i : Nat) {x : Str} (hN : X.N[i]? = some x := by rfl) (hv : Vis X.env.scope x := by first | exact Or.inl rfl | exact Or.inr (Or.inl rfl) | exact Or.inr (Or.inr rfl))
    (hd : (x == ("__debug__" : Str)) = false := by decide) (hc : (x == ("__classdict__" : Str)) = false := by decide) : EA X W (.Name x pos) (tVar i) (aVar i) := by
  refine ⟨pe_var hN hv hd hc, fun σ H F S R ρ Q E P T en wo h po => ?_⟩
  obtain ⟨d, q, h'⟩ := atV_ok h
  obtain ⟨v, h1, h2⟩ := en.at_ i d q
  exact ⟨v, h1, po v H F S d (Same.refl _) T h2 h'⟩
theorem re_c {v : V} {d : D} (h : ∀ F, Dv X.kw F v d) : RE X.kw W (tC v) (aC d) := fun σ H F S R ρ Q E P T en wo q po => po v H F S d (Same.refl _) T (h F) q
theorem ea_int {i : Int} {j : Nat} : EA X W (.Constant (.int i) j pos) (tC (.int i)) (aC (.int i)) := ⟨pe_int, re_c fun _ => .int i⟩
theorem ea_bl {b : Bool} {j : Nat} : EA X W (.Constant (.bool b) j pos) (tC (.bl b)) (aC (.bl b)) := ⟨pe_bl, re_c fun _ => .bl b⟩
theorem ea_str {x : Str} {j : Nat} : EA X W (.Constant (.str x) j pos) (tC (.str x)) (aC (.str x)) := ⟨pe_str, re_c fun _ => .str x⟩
/-- a module's constant; a def or class as a value -/
theorem ea_glob {x : Str} {v : V} {u : Value} {d : D} (hm : X.mg x = some u) (r : RelV v u) (h : ∀ F, Dv X.kw F v d) (hg : Gl X x := by rfl) (hd : (x == ("__debug__" : Str)) = false := by decide) : EA X W (.Name x pos) (tC v) (aC d) :=
  ⟨pe_glob hg hm r hd, re_c h⟩
theorem ea_gint {x : Str} {i : Int} (hm : ∃ t, X.mg x = some (.int i t)) (hg : Gl X x := by rfl) (hd : (x == ("__debug__" : Str)) = false := by decide) : EA X W (.Name x pos) (tC (.int i)) (aC (.int i)) := by
  obtain ⟨t, h⟩ := hm
  exact ea_glob h ⟨t, rfl⟩ (fun _ => .int i) hg hd
/-! ### arguments, displays -/
def aNil : AA := fun _ S Q _ => Q [] S
def aCons (a : AE) (r : AA) : AA := fun ρ S Q E => a ρ S (fun d S1 => r ρ S1 (fun ds S2 => Q (d :: ds) S2) E) E
theorem ar_nil : ArA X W [] tNil aNil := ⟨pa_nil, fun σ H F S R ρ Q E P T en wo h po => po [] H F S [] (Same.refl _) T .nil h⟩
theorem ar_cons {es : List Expr} {te : TE} {t : TA} {ae : AE} {ar : AA} (ha : EA X W e te ae) (hr : ArA X W es t ar) (hs : starEach (e :: es) X.env = (false, eval e X.env) :: starEach es X.env := by rfl) :
    ArA X W (e :: es) (tCons te t) (aCons ae ar) :=
  ⟨pa_cons ha.pe hr.pa hs, fun σ H F S R ρ Q E P T en wo h po => ha.re σ H F S R ρ _ E _ T en wo h fun v H1 F1 S1 d e1 T1 dv q =>
    hr.ra σ H1 F1 S1 R ρ _ E _ T1 (en.mono e1) (wo.mono e1) q fun vs H2 F2 S2 ds e2 T2 dvs q2 => po (v :: vs) H2 F2 S2 (d :: ds) (e1.trans e2) T2 (.cons (dv.mono e2) dvs) q2⟩
/-- a new list: data at once, or one's own -/
def NewL (ds : List D) (S : Sto) (Q : KD) : Prop := Q (.lst ds) S ∨ ∀ a, S a = none → Q (.own a) (put S a (.lst ds))
theorem newL_ok {K : KW} {F H : Hp} {S R : Sto} {vs : List V} {ds : List D} {Q : KD} {P : VK} (T : Sta K F S R H) (h : DvL K F vs ds) (z : ds.length ≤ sizeLine) (q : NewL ds S Q) (po : Post K F R Q P) :
    ∀ p, H p = none → P (.ref p) (upd H p (.lst vs)) := fun p hp => by
  obtain ⟨fF, fS, fR⟩ := T.free hp
  rcases q with q | q
  · exact po _ _ _ S (.lst ds) (same_upd fF) (T.frozen hp) (.lst upd_same z (h.mono (same_upd fF))) q
  · exact po _ _ F _ (.own p) (Same.refl _) (T.owned (c := .lst ds) hp ⟨z, vs, upd_same, h⟩) (.own p) (q p fS)
theorem newT_ok {K : KW} {F H : Hp} {S R : Sto} {vs : List V} {ds : List D} {Q : KD} {P : VK} (T : Sta K F S R H) (h : DvL K F vs ds) (z : ds.length ≤ sizeLine) (q : Q (.tup ds) S) (po : Post K F R Q P) :
    ∀ p, H p = none → P (.ref p) (upd H p (.tup vs)) := fun p hp => by
  obtain ⟨fF, fS, fR⟩ := T.free hp
  exact po _ _ _ S (.tup ds) (same_upd fF) (T.frozen hp) (.tup (SqT.of upd_same) z (h.mono (same_upd fF))) q
def aTup (a : AA) : AE := fun ρ S Q E => a ρ S (fun ds S1 => ds.length ≤ sizeLine ∧ Q (.tup ds) S1) E
def aLst (a : AA) : AE := fun ρ S Q E => a ρ S (fun ds S1 => ds.length ≤ sizeLine ∧ NewL ds S1 Q) E
theorem ea_tup {es : List Expr} {t : TA} {ar : AA} {k : Nat} (h : ArA X W es t ar) : EA X W (.Tuple es k pos) (tTup t) (aTup ar) :=
  ⟨pe_tup h.pa, fun σ H F S R ρ Q E P T en wo q po => h.ra σ H F S R ρ _ E _ T en wo q fun vs H1 F1 S1 ds e1 T1 dvs q1 =>
    ⟨by rw [dvs.len]; exact q1.1, newT_ok T1 dvs q1.1 q1.2 (po.mono e1)⟩⟩
theorem ea_lst {es : List Expr} {t : TA} {ar : AA} (h : ArA X W es t ar) : EA X W (.List es pos) (tLst t) (aLst ar) :=
  ⟨pe_lst h.pa, fun σ H F S R ρ Q E P T en wo q po => h.ra σ H F S R ρ _ E _ T en wo q fun vs H1 F1 S1 ds e1 T1 dvs q1 =>
    ⟨by rw [dvs.len]; exact q1.1, newL_ok T1 dvs q1.1 q1.2 (po.mono e1)⟩⟩
/-- a built-in function or type, called -/
def aCB (r : ON) (a : AA) : AE := fun ρ S Q E => a ρ S (fun ds S1 => r ds S1 Q) E
theorem re_callB {r : List V → Hp → VK → Prop} {o : ON} {t : TA} {ar : AA} (hr : RNk X.kw r o) (h : RA X.kw W t ar) : RE X.kw W (tCB r t) (aCB o ar) :=
  fun σ H F S R ρ Q E P T en wo q po => h σ H F S R ρ _ E _ T en wo q fun vs H1 F1 S1 ds e1 T1 dvs q1 => hr vs ds H1 F1 S1 R Q P T1 dvs q1 (po.mono e1)
theorem ea_callB {id : String} {x : Str} {p : Pos} {es : List Expr} {r : List V → Hp → VK → Prop} {o : ON} {t : TA} {ar : AA} (c : CallA X (.builtin id) r o) (hm : X.mg x = none) (h : ArA X W (e :: es) t ar) (hv : bootBuiltins x = some (.builtin id) := by decide +kernel) (hg : Gl X x := by rfl)
    (hn : x ≠ "__name__" := by decide) (hdb : (x == ("__debug__" : Str)) = false := by decide)
    (he : starEach (e :: es) X.env = (false, eval e X.env) :: starEach es X.env := by rfl) (hpl : (backTo pos (starEach es X.env)).any (·.1) = false := by rfl) :
    EA X W (.Call (.Name x p) (e :: es) [] pos) (tCB r t) (aCB o ar) := ⟨pe_callB c.op hg hm hv h.pa hn hdb he hpl, re_callB c.k h.ra⟩
theorem ea_callTy {id : String} {x : Str} {p : Pos} {es : List Expr} {r : List V → Hp → VK → Prop} {o : ON} {t : TA} {ar : AA} (c : CallA X (.type id) r o) (hm : X.mg x = none) (h : ArA X W (e :: es) t ar) (hv : bootBuiltins x = some (.type id) := by decide +kernel) (hg : Gl X x := by rfl)
    (hn : x ≠ "__name__" := by decide) (hdb : (x == ("__debug__" : Str)) = false := by decide)
    (he : starEach (e :: es) X.env = (false, eval e X.env) :: starEach es X.env := by rfl) (hpl : (backTo pos (starEach es X.env)).any (·.1) = false := by rfl) :
    EA X W (.Call (.Name x p) (e :: es) [] pos) (tCB r t) (aCB o ar) := ⟨pe_callTy c.op hg hm hv h.pa hn hdb he hpl, re_callB c.k h.ra⟩

/-! ### tests -/
def aNot (a : AT) : AT := fun ρ S Q E => a ρ S (fun b S1 => Q (!b) S1) E
def aAnd (a b : AT) : AT := fun ρ S Q E => a ρ S (fun c S1 => if c = true then b ρ S1 Q E else Q false S1) E
def aOr (a b : AT) : AT := fun ρ S Q E => a ρ S (fun c S1 => if c = true then Q true S1 else b ρ S1 Q E) E
def aTst (a : AE) : AT := fun ρ S Q E => a ρ S (onB Q) E
theorem re_bl {P : Bool → Hp → Prop} {Q : Bool → Sto → Prop} {K : KW} {F : Hp} {R : Sto} (po : PostB K F R Q P) : Post K F R (onB Q) (fun x H' => ∃ k, x = .bl k ∧ P k H') := by
  intro v H' F' S' d e T dv q
  cases dv with
  | bl b => exact ⟨b, rfl, po b H' F' S' e T q⟩
  | _ => exact (show False from q).elim
theorem ta_cmp {op : CmpOp} {r : R2} {a2 : O2} (o : OpA X (compareOp op) r a2) (ha : EA X W a ta aa) (hb : EA X W b tb ab) (hm : behindInMarks op b = false := by first | rfl | exact nomark _) :
    TstA X W (.Compare a [op] [b] pos) (tTest (tOp r ta tb)) (aTst (aOp a2 aa ab)) :=
  ⟨pt_cmpR o.op ha.pe hb.pe hm, fun σ H F S R ρ Q E P T en wo q po => re_op o.k ha.re hb.re σ H F S R ρ _ E _ T en wo q (re_bl po)⟩
/-- an expression whose value is a truth -/
theorem ta_val {t : TE} (h : EA X W e t aa) (he : ∀ whole, isTrue e X.env whole = (do let v ← whole; standAt e.pos; holding [v] (truthy v)) := by intros; rfl) : TstA X W e (tB t) (aTst aa) :=
  ⟨pt_val h.pe he, fun σ H F S R ρ Q E P T en wo q po => h.re σ H F S R ρ _ E _ T en wo q (re_bl po)⟩
variable {t1 t2 : TT} {a1 a2 : AT}
theorem ta_not (h : TstA X W a t1 a1) : TstA X W (.UnaryOp .Not a pos) (tNot t1) (aNot a1) :=
  ⟨pt_not h.pt, fun σ H F S R ρ Q E P T en wo q po => h.rt σ H F S R ρ _ E _ T en wo q fun b H' F' S' e1 T1 q1 => po (!b) H' F' S' e1 T1 q1⟩
structure WstA (X : Cx) (W : WX) (e : Expr) (t : TT) (a : AT) : Prop where
  pw : PW X e t
  rt : RT X.kw W t a
theorem WstA.t {e : Expr} (h : WstA X W e t1 a1) : TstA X W e t1 a1 := ⟨h.pw.pt, h.rt⟩
theorem wa_or1 (h : TstA X W a t1 a1) : WstA X W (.BoolOp .Or [a] pos) t1 a1 := ⟨pw_or1 h.pt, h.rt⟩
theorem wa_or {rest : List Expr} (h : TstA X W a t1 a1) (k : WstA X W (.BoolOp .Or (b :: rest) pos) t2 a2) : WstA X W (.BoolOp .Or (a :: b :: rest) pos) (tOr t1 t2) (aOr a1 a2) := by
  refine ⟨pw_or h.pt k.pw, fun σ H F S R ρ Q E P T en wo q po => h.rt σ H F S R ρ _ E _ T en wo q fun c H1 F1 S1 e1 T1 q1 => ?_⟩
  cases c with
  | true => exact po true H1 F1 S1 e1 T1 q1
  | false => exact k.rt σ H1 F1 S1 R ρ Q E P T1 (en.mono e1) (wo.mono e1) q1 (po.mono e1)
/-- .. as values -/
def aIfE (c : AT) (a b : AE) : AE := fun ρ S Q E => c ρ S (fun k S1 => if k = true then a ρ S1 Q E else b ρ S1 Q E) E
theorem ea_if {c : Expr} (hc : TstA X W c t1 a1) (ha : EA X W a ta aa) (hb : EA X W b tb ab) : EA X W (.IfExp c a b pos) (tIf t1 ta tb) (aIfE a1 aa ab) := by
  refine ⟨pe_ifExp hc.pt ha.pe hb.pe, fun σ H F S R ρ Q E P T en wo q po => hc.rt σ H F S R ρ _ E _ T en wo q fun k H1 F1 S1 e1 T1 q1 => ?_⟩
  cases k with
  | true => exact ha.re σ H1 F1 S1 R ρ Q E P T1 (en.mono e1) (wo.mono e1) q1 (po.mono e1)
  | false => exact hb.re σ H1 F1 S1 R ρ Q E P T1 (en.mono e1) (wo.mono e1) q1 (po.mono e1)
def aAndV (a b : AE) : AE := fun ρ S Q E => a ρ S (onB fun c S1 => if c = true then b ρ S1 Q E else Q (.bl false) S1) E
def aOrV (a b : AE) : AE := fun ρ S Q E => a ρ S (onB fun c S1 => if c = true then Q (.bl true) S1 else b ρ S1 Q E) E
def aNotV (a : AE) : AE := fun ρ S Q E => a ρ S (onB fun c S1 => Q (.bl (!c)) S1) E
theorem ea_one {op : BoolOp} (h : EA X W a ta aa) : EA X W (.BoolOp op [a] pos) ta aa := ⟨pe_one h.pe, h.re⟩
theorem ea_and {rest : List Expr} (h : EA X W a ta aa) (k : EA X W (.BoolOp .And (b :: rest) pos) tb ab) : EA X W (.BoolOp .And (a :: b :: rest) pos) (tAndV ta tb) (aAndV aa ab) := by
  refine ⟨pe_and h.pe k.pe, fun σ H F S R ρ Q E P T en wo q po => h.re σ H F S R ρ _ E _ T en wo q fun v H1 F1 S1 d e1 T1 dv q1 => ?_⟩
  cases dv with
  | bl c =>
    refine ⟨c, rfl, ?_⟩
    cases c with
    | true => exact k.re σ H1 F1 S1 R ρ Q E P T1 (en.mono e1) (wo.mono e1) q1 (po.mono e1)
    | false => exact po (.bl false) H1 F1 S1 _ e1 T1 (.bl false) q1
  | _ => exact (show False from q1).elim
theorem ea_not (h : EA X W a ta aa) : EA X W (.UnaryOp .Not a pos) (tNotV ta) (aNotV aa) := by
  refine ⟨pe_not h.pe, fun σ H F S R ρ Q E P T en wo q po => h.re σ H F S R ρ _ E _ T en wo q fun v H1 F1 S1 d e1 T1 dv q1 => ?_⟩
  cases dv with
  | bl c => exact ⟨c, rfl, po _ H1 F1 S1 _ e1 T1 (.bl _) q1⟩
  | _ => exact (show False from q1).elim
/-- a < b < c -/
def aChn (r r' : O2) (a b c : AE) : AE := fun ρ S Q E => a ρ S (fun d S1 => b ρ S1 (fun e S2 => r d e S2 (onB fun k S3 => if k = true then c ρ S3 (fun g S4 => r' e g S4 Q) E else Q (.bl false) S3)) E) E
theorem re_chain {tc : TE} {ac : AE} {r r' : R2} {o o' : O2} (hr : R2k X.kw r o) (hr' : R2k X.kw r' o') (ha : RE X.kw W ta aa) (hb : RE X.kw W tb ab) (hc : RE X.kw W tc ac) : RE X.kw W (tChain r r' ta tb tc) (aChn o o' aa ab ac) := by
  intro σ H F S R ρ Q E P T en wo q po
  refine ha σ H F S R ρ _ E _ T en wo q fun x H1 F1 S1 d e1 T1 dx q1 => ?_
  refine hb σ H1 F1 S1 R ρ _ E _ T1 (en.mono e1) (wo.mono e1) q1 fun y H2 F2 S2 e e2 T2 dy q2 => ?_
  have e12 := e1.trans e2
  refine hr x y d e H2 F2 S2 R _ _ T2 (dx.mono e2) dy q2 fun z H3 F3 S3 g e3 T3 dz q3 => ?_
  have e13 := e12.trans e3
  cases dz with
  | bl k =>
    refine ⟨k, rfl, ?_⟩
    cases k with
    | true => exact hc σ H3 F3 S3 R ρ _ E _ T3 (en.mono e13) (wo.mono e13) q3 fun u H4 F4 S4 g e4 T4 du q4 => hr' y u e g H4 F4 S4 R Q P T4 (dy.mono (e3.trans e4)) du q4 (po.mono (e13.trans e4))
    | false => exact po _ H3 F3 S3 _ e13 T3 (.bl false) q3
  | _ => exact (show False from q3).elim
theorem ea_chain {c : Expr} {tc : TE} {ac : AE} {op op' : CmpOp} {r r' : R2} {o o' : O2} (h : OpA X (compareOp op) r o) (h' : OpA X (compareOp op') r' o') (ha : EA X W a ta aa) (hb : EA X W b tb ab) (hc : EA X W c tc ac)
    (hm : lastMarks [op, op'] [b, c] = false := by rfl) : EA X W (.Compare a [op, op'] [b, c] pos) (tChain r r' ta tb tc) (aChn o o' aa ab ac) :=
  ⟨pe_chain h.op h'.op ha.pe hb.pe hc.pe hm, re_chain h.k h'.k ha.re hb.re hc.re⟩
end
end A

/-! ## statements, loops, comprehensions -/
namespace A
open PySem PySem.Spec L2 PyProof.Rows

structure AEnds where
  nx : En → Sto → Prop
  rt : KD
  bk : En → Sto → Prop := fun _ _ => False
  ct : En → Sto → Prop := fun _ _ => False
  xx : En → KX := fun _ _ _ => False
abbrev AS := AEnds → En → Sto → Prop
def PostN (K : KW) (F : Hp) (R : Sto) (Q : En → Sto → Prop) (P : St → Hp → Prop) : Prop :=
  ∀ σ' H' F' S' ρ', Same F F' → Sta K F' S' R H' → EnR K F' σ' ρ' → Q ρ' S' → P σ' H'
structure DnR (K : KW) (F : Hp) (R : Sto) (Da : AEnds) (Dc : Ends) : Prop where
  nx : PostN K F R Da.nx Dc.nx
  rt : Post K F R Da.rt Dc.rt
  bk : PostN K F R Da.bk Dc.bk
  ct : PostN K F R Da.ct Dc.ct
def WOkS (K : KW) (F : Hp) (R : Sto) (W : WX) (E : En → KX) : Prop :=
  ∀ cls dd σ' H' F' S' ρ' x, Same F F' → Sta K F' S' R H' → EnR K F' σ' ρ' → XR K F' H' cls dd x → E ρ' x S' → W cls dd σ' H'
def RS (K : KW) (W : WX) (t : TS) (a : AS) : Prop :=
  ∀ σ H F S R ρ Da Dc, Sta K F S R H → EnR K F σ ρ → WOkS K F R W Da.xx → DnR K F R Da Dc → a Da ρ S → t Dc σ H
section
variable {K : KW} {F F' : Hp} {R : Sto} {σ : St} {ρ : En} {W : WX}
theorem PostN.mono {Q : En → Sto → Prop} {P : St → Hp → Prop} (h : PostN K F R Q P) (e : Same F F') : PostN K F' R Q P := fun σ' H' F2 S' ρ' k => h σ' H' F2 S' ρ' (e.trans k)
theorem DnR.mono {Da : AEnds} {Dc : Ends} (h : DnR K F R Da Dc) (e : Same F F') : DnR K F' R Da Dc := ⟨h.nx.mono e, h.rt.mono e, h.bk.mono e, h.ct.mono e⟩
theorem WOkS.mono {E : En → KX} (h : WOkS K F R W E) (e : Same F F') : WOkS K F' R W E := fun c dd σ' H' F2 S' ρ' x k => h c dd σ' H' F2 S' ρ' x (e.trans k)
theorem WOkS.at_ {E : En → KX} (h : WOkS K F R W E) (en : EnR K F σ ρ) : WOk K F R σ W (E ρ) := fun c dd H' F2 S' x e T xr q => h c dd σ H' F2 S' ρ x e T (en.mono e) xr q
end
structure SA (X : Cx) (W : WX) (st : Stmt) (t : TS) (a : AS) : Prop where
  ps : PS X st t
  rs : RS X.kw W t a
structure SsA (X : Cx) (W : WX) (sts : List Stmt) (t : TS) (a : AS) : Prop where
  ps : PSs X sts t
  rs : RS X.kw W t a

section
variable {X : Cx} {W : WX} {st : Stmt} {rest : List Stmt} {t u : TS} {a b : AS} {e c : Expr} {te : TE} {ae : AE} {tc : TT} {ac : AT} {pos : Pos}
def aNext : AS := fun D ρ S => D.nx ρ S
def aSeq (a b : AS) : AS := fun D ρ S => a { D with nx := fun ρ' S' => b D ρ' S' } ρ S
theorem rs_next : RS X.kw W tNext aNext := fun σ H F S R ρ Da Dc T en wo dn h => dn.nx σ H F S ρ (Same.refl _) T en h
theorem ss_nil : SsA X W [] tNext aNext := ⟨pss_nil, rs_next⟩
theorem ss_cons (h1 : SA X W st t a) (h2 : SsA X W rest u b) : SsA X W (st :: rest) (tSeq t u) (aSeq a b) :=
  ⟨pss_cons h1.ps h2.ps, fun σ H F S R ρ Da Dc T en wo dn h => h1.rs σ H F S R ρ { Da with nx := fun ρ' S' => b Da ρ' S' } { Dc with nx := u Dc } T en wo
    ⟨fun σ' H' F' S' ρ' e T' en' q => h2.rs σ' H' F' S' R ρ' Da Dc T' en' (wo.mono e) (dn.mono e) q, dn.rt, dn.bk, dn.ct⟩ h⟩
theorem ss_one (h1 : SA X W st t a) : SsA X W [st] t a := ⟨pss_one h1.ps, h1.rs⟩
def aBreak : AS := fun D ρ S => D.bk ρ S
def aCont : AS := fun D ρ S => D.ct ρ S
def aNever : AS := fun _ _ _ => False
theorem s_never : SA X W st tNever aNever := ⟨ps_never, fun σ H F S R ρ Da Dc T en wo dn h => h.elim⟩
def aDrop (a : AE) : AS := fun D ρ S => a ρ S (fun _ S1 => D.nx ρ S1) (D.xx ρ)
theorem s_expr (h : EA X W e te ae) (hs : swapsWith e none pos.line X.env = pure false := by rfl) : SA X W (.Expr e pos) (tDrop te) (aDrop ae) :=
  ⟨ps_expr h.pe hs, fun σ H F S R ρ Da Dc T en wo dn q => h.re σ H F S R ρ _ _ _ T en (wo.at_ en) q fun v H' F' S' d e1 T1 dv q1 => dn.nx σ H' F' S' ρ e1 T1 (en.mono e1) q1⟩
def aRet (a : AE) : AS := fun D ρ S => a ρ S D.rt (D.xx ρ)
theorem s_ret (h : EA X W e te ae) : SA X W (.Return (some e) pos) (tRet te) (aRet ae) :=
  ⟨ps_ret h.pe, fun σ H F S R ρ Da Dc T en wo dn q => h.re σ H F S R ρ _ _ _ T en (wo.at_ en) q dn.rt⟩
def aRetN : AS := fun D _ S => D.rt .non S
def aIf (c : AT) (a b : AS) : AS := fun D ρ S => c ρ S (fun k S1 => if k = true then a D ρ S1 else b D ρ S1) (D.xx ρ)
theorem s_if {l r : List Stmt} (hc : TstA X W c tc ac) (ha : SsA X W l t a) (hb : SsA X W r u b) : SA X W (.If c l r pos) (tIfS tc t u) (aIf ac a b) := by
  refine ⟨ps_if hc.pt ha.ps hb.ps, fun σ H F S R ρ Da Dc T en wo dn q => hc.rt σ H F S R ρ _ _ _ T en (wo.at_ en) q fun k H1 F1 S1 e1 T1 q1 => ?_⟩
  cases k with
  | true => exact ha.rs σ H1 F1 S1 R ρ Da Dc T1 (en.mono e1) (wo.mono e1) (dn.mono e1) q1
  | false => exact hb.rs σ H1 F1 S1 R ρ Da Dc T1 (en.mono e1) (wo.mono e1) (dn.mono e1) q1

/-! ### targets -/
abbrev AG := D → En → Sto → (En → Sto → Prop) → KX → Prop
abbrev AGs := List D → En → Sto → (En → Sto → Prop) → KX → Prop
def RG (K : KW) (W : WX) (t : TG) (a : AG) : Prop :=
  ∀ v d σ H F S R ρ Q E P, Sta K F S R H → EnR K F σ ρ → WOk K F R σ W E → Dv K F v d → a d ρ S Q E → PostN K F R Q P → t v σ H P
def RGs (K : KW) (W : WX) (t : TGs) (a : AGs) : Prop :=
  ∀ vs ds σ H F S R ρ Q E P, Sta K F S R H → EnR K F σ ρ → (∀ σ, WOk K F R σ W E) → DvL K F vs ds → a ds ρ S Q E → PostN K F R Q P → t vs σ H P
structure GA (X : Cx) (W : WX) (tg : Expr) (t : TG) (a : AG) : Prop where
  pg : PG X tg t
  rg : RG X.kw W t a
structure GsA (X : Cx) (W : WX) (tgs : List Expr) (t : TGs) (a : AGs) : Prop where
  pg : PGs X tgs t
  rg : RGs X.kw W t a
def agName (i : Nat) : AG := fun d ρ S Q _ => Q (ρ.set i (some d)) S
theorem g_name {i : Nat} {x : Str} (hN : X.N.Nodup) (hi : X.N[i]? = some x := by rfl) (hx : Loc X.env.scope x := by first | exact Or.inl rfl | exact Or.inr rfl)
    (hf : X.fn x = true ∨ X.env.scope.names.lookup x = some .local := by first | exact .inl rfl | exact .inr rfl | assumption) : GA X W (.Name x pos) (gName i) (agName i) :=
  ⟨pg_name hN hi hx hf, fun v d σ H F S R ρ Q E P T en wo dv q po => po _ H F S _ (Same.refl _) T (en.set dv) q⟩
def agNil : AGs := fun ds ρ S Q _ => ds = [] ∧ Q ρ S
def agCons (a : AG) (r : AGs) : AGs := fun ds ρ S Q E => match ds with | d :: ds => a d ρ S (fun ρ1 S1 => r ds ρ1 S1 Q E) E | [] => False
theorem gs_nil : GsA X W [] gNil agNil := by
  refine ⟨pgs_nil, fun vs ds σ H F S R ρ Q E P T en wo dv q po => ?_⟩
  obtain ⟨e, q⟩ := q
  subst e
  cases dv
  exact ⟨rfl, po σ H F S ρ (Same.refl _) T en q⟩
theorem gs_cons {e : Expr} {es : List Expr} {t : TG} {u : TGs} {a : AG} {r : AGs} (h1 : GA X W e t a) (h2 : GsA X W es u r) (hs : (assignEach (e :: es) X.env).map (·.2) = assign e X.env :: (assignEach es X.env).map (·.2) := by rfl) :
    GsA X W (e :: es) (gCons t u) (agCons a r) := by
  refine ⟨pgs_cons h1.pg h2.pg hs, fun vs ds σ H F S R ρ Q E P T en wo dv q po => ?_⟩
  cases dv with
  | nil => exact (show False from q).elim
  | cons h t' => exact ⟨_, _, rfl, h1.rg _ _ σ H F S R ρ _ E _ T en (wo σ) h q fun σ1 H1 F1 S1 ρ1 e1 T1 en1 q1 => h2.rg _ _ σ1 H1 F1 S1 R ρ1 Q E P T1 en1 (fun s => (wo s).mono e1) (t'.mono e1) q1 (po.mono e1)⟩
theorem pg_or {tg : Expr} {t1 t2 : TG} (h1 : PG X tg t1) (h2 : PG X tg t2) : PG X tg (fun v σ H Q => t1 v σ H Q ∨ t2 v σ H Q) :=
  ⟨fun pins s σ H v u Q I r h => h.elim (h1.run pins s σ H v u Q I r) (h2.run pins s σ H v u Q I r)⟩
/-- the items of a list or tuple, as they stand -/
def asL (S : Sto) : D → Option (List D)
  | .lst l => some l
  | .own a => match S a with | some (.lst l) => some l | _ => none
  | _ => none
def asSq (S : Sto) : D → Option (List D)
  | .tup l => some l
  | d => asL S d
theorem asL_ok {K : KW} {F H : Hp} {S R : Sto} {v : V} {d : D} {ds : List D} (T : Sta K F S R H) (h : Dv K F v d) (q : asL S d = some ds) : ∃ a xs, v = .ref a ∧ H a = some (.lst xs) ∧ DvL K F xs ds ∧ ds.length ≤ sizeLine := by
  cases h with
  | lst h z l => cases q; exact ⟨_, _, rfl, T.le _ _ h, l, z⟩
  | own a =>
    have q2 : (match S a with | some (.lst l) => some l | _ => none) = some ds := q
    split at q2
    · rename_i l e2
      cases q2
      obtain ⟨_, z, xs, h1, h2⟩ := T.own _ _ e2
      exact ⟨_, xs, rfl, h1, h2, z⟩
    · cases q2
  | _ => cases q
theorem asSq_ok {K : KW} {F H : Hp} {S R : Sto} {v : V} {d : D} {ds : List D} (T : Sta K F S R H) (h : Dv K F v d) (q : asSq S d = some ds) : ∃ a xs, v = .ref a ∧ (SqL K.K H a xs ∨ SqT K.K H a xs) ∧ DvL K F xs ds ∧ ds.length ≤ sizeLine := by
  cases d with
  | tup l =>
    cases q
    cases h with
    | tup h z l => exact ⟨_, _, rfl, .inr (SqT.same T.le h), l, z⟩
  | _ =>
    obtain ⟨a, xs, h1, h2, h3, h4⟩ := asL_ok T h q
    exact ⟨a, xs, h1, .inl (SqL.of h2), h3, h4⟩
def agTup (n : Nat) (r : AGs) : AG := fun d ρ S Q E => ∃ ds, asSq S d = some ds ∧ ds.length = n ∧ r ds ρ S Q E
theorem g_tup {es : List Expr} {k : Nat} {t : TGs} {r : AGs} {n : Nat} (hc : X.calm = true) (h : GsA X W es t r) (hw : ∀ {K F R σ σ' E}, WOk K F R σ W E → WOk K F R σ' W E)
    (hn : (assignEach es X.env).length = n := by rfl) (hst : (assignEach es X.env).findIdx? (·.1) = none := by rfl) :
    GA X W (.Tuple es k pos) (fun v σ H Q => gTup X.K n t v σ H Q ∨ gLst X.K n t v σ H Q) (agTup n r) := by
  refine ⟨pg_or (pg_tup hc h.pg hn hst) (pg_lst hc h.pg hn hst), fun v d σ H F S R ρ Q E P T en wo dv q po => ?_⟩
  obtain ⟨ds, e, hn, q⟩ := q
  obtain ⟨a, xs, rfl, h2, h3, _⟩ := asSq_ok T dv e
  have hl : xs.length = n := h3.len.trans hn
  have fin := h.rg xs ds σ H F S R ρ Q E P T en (fun s => hw wo) h3 q po
  cases h2 with
  | inl z => exact .inr ⟨a, xs, rfl, z, hl, fin⟩
  | inr z => exact .inl ⟨a, xs, rfl, z, hl, fin⟩
def aAsg (a : AE) (g : AG) : AS := fun D ρ S => a ρ S (fun d S1 => g d ρ S1 D.nx (D.xx ρ)) (D.xx ρ)
theorem s_asg {tg : Expr} {g : TG} {ag : AG} (h : EA X W e te ae) (hg : GA X W tg g ag) (hs : swapsWithSole [tg] e pos.line X.env = pure false := by rfl)
    (hsw : swappedStores [tg] e X.env = pure none := by rfl) (hm : (assignEach [tg] X.env).map (·.2) = [assign tg X.env] := by rfl) : SA X W (.Assign [tg] e pos) (tAsg te g) (aAsg ae ag) :=
  ⟨ps_asg h.pe hg.pg hs hsw hm, fun σ H F S R ρ Da Dc T en wo dn q => h.re σ H F S R ρ _ _ _ T en (wo.at_ en) q fun v H1 F1 S1 d e1 T1 dv q1 =>
    hg.rg v d σ H1 F1 S1 R ρ _ _ _ T1 (en.mono e1) ((wo.at_ en).mono e1) dv q1 (dn.nx.mono e1)⟩
def aSet (i : Nat) (a : AE) : AS := fun D ρ S => a ρ S (fun d S1 => D.nx (ρ.set i (some d)) S1) (D.xx ρ)
theorem s_set {i : Nat} {x : Str} {pos' : Pos} (h : EA X W e te ae) (hN : X.N.Nodup) (hi : X.N[i]? = some x := by rfl) (hx : Loc X.env.scope x := by first | exact Or.inl rfl | exact Or.inr rfl) (hs : swapsWith e (some (.Name x pos')) pos.line X.env = pure false := by rfl)
    (hf : X.fn x = true ∨ X.env.scope.names.lookup x = some .local := by first | exact .inl rfl | exact .inr rfl | assumption) : SA X W (.Assign [.Name x pos'] e pos) (tAsg te (gName i)) (aSet i ae) :=
  ⟨ps_set hN hi hx h.pe hs hf, fun σ H F S R ρ Da Dc T en wo dn q => h.re σ H F S R ρ _ _ _ T en (wo.at_ en) q fun v H1 F1 S1 d e1 T1 dv q1 => dn.nx _ H1 F1 S1 _ e1 T1 ((en.mono e1).set dv) q1⟩
/-- a, b = x, y -/
def aPar (i j : Nat) (ar : AA) : AS := fun D ρ S => ar ρ S (fun ds S1 => match ds with | [d, e] => D.nx ((ρ.set i (some d)).set j (some e)) S1 | _ => False) (D.xx ρ)
theorem s_par {i j : Nat} {x y : Str} {l r : Expr} {ta : TA} {ar : AA} {px py pt : Pos} {kt k2 : Nat} {pt2 : Pos} (hc : X.calm = true) (hN : X.N.Nodup) (ha : ArA X W [l, r] ta ar)
    (hi : X.N[i]? = some x := by rfl) (hj : X.N[j]? = some y := by rfl) (hij : i ≠ j := by decide) (hx : X.env.scope.names.lookup x = some .local := by rfl) (hy : X.env.scope.names.lookup y = some .local := by rfl)
    (hw : swappedStores [.Tuple [.Name x px, .Name y py] kt pt] (.Tuple [l, r] k2 pt2) X.env = pure (some [x, y]) := by rfl) (hs : swapsWithSole [.Tuple [.Name x px, .Name y py] kt pt] (.Tuple [l, r] k2 pt2) pos.line X.env = pure false := by rfl) :
    SA X W (.Assign [.Tuple [.Name x px, .Name y py] kt pt] (.Tuple [l, r] k2 pt2) pos) (tPar i j ta) (aPar i j ar) := by
  refine ⟨ps_par hc hN hi hj hij hx hy ha.pa hw hs, fun σ H F S R ρ Da Dc T en wo dn q => ha.ra σ H F S R ρ _ _ _ T en (wo.at_ en) q fun vs H1 F1 S1 ds e1 T1 dvs q1 => ?_⟩
  cases dvs with
  | nil => exact (show False from q1).elim
  | cons h1 t1 =>
    cases t1 with
    | nil => exact (show False from q1).elim
    | cons h2 t2 =>
      cases t2 with
      | cons _ _ => exact (show False from q1).elim
      | nil => exact ⟨_, _, rfl, dn.nx _ H1 F1 S1 _ e1 T1 (((en.mono e1).set h1).set h2) q1⟩
/-- x op= e -/
def aAug (i : Nat) (a : AE) (o : O2) : AS := fun D ρ S => atV ρ[i]? fun d => a ρ S (fun e S1 => o d e S1 fun g S2 => D.nx (ρ.set i (some g)) S2) (D.xx ρ)
structure IpA (X : Cx) (op : Operator) (t : TIp) (a : O2) : Prop where
  op : PIp X op t
  k : R2k X.kw t a
theorem s_aug {i : Nat} {x : Str} {op : Operator} {ti : TIp} {o : O2} {pos' : Pos} (ho : IpA X op ti o) (h : EA X W e te ae) (hN : X.N.Nodup) (hi : X.N[i]? = some x := by rfl) (hx : Loc X.env.scope x := by first | exact Or.inl rfl | exact Or.inr rfl)
    (hf : X.fn x = true ∨ X.env.scope.names.lookup x = some .local := by first | exact .inl rfl | exact .inr rfl | assumption) : SA X W (.AugAssign (.Name x pos') op e pos) (tAug i te ti) (aAug i ae o) := by
  refine ⟨ps_aug hN hi hx h.pe ho.op hf, fun σ H F S R ρ Da Dc T en wo dn q => ?_⟩
  obtain ⟨d, hd, q⟩ := atV_ok q
  obtain ⟨v, h1, h2⟩ := en.at_ i d hd
  refine ⟨v, h1, h.re σ H F S R ρ _ _ _ T en (wo.at_ en) q fun u H1 F1 S1 e2 e1 T1 dv q1 => ?_⟩
  exact ho.k v u d e2 H1 F1 S1 R _ _ T1 (h2.mono e1) dv q1 fun g H2 F2 S2 dg e3 T2 dgv q2 => dn.nx _ H2 F2 S2 _ (e1.trans e3) T2 ((en.mono (e1.trans e3)).set dgv) q2

/-! ### while -/
def aWhile (c : AT) (b : AS) : AS := fun D ρ S => ∃ I : Nat → En → Sto → Prop, (∃ m, I m ρ S) ∧ ∀ m ρ S, I m ρ S →
  c ρ S (fun k S1 => if k = true then b { D with nx := fun ρ' S' => ∃ m', m' < m ∧ I m' ρ' S', ct := fun ρ' S' => ∃ m', m' < m ∧ I m' ρ' S', bk := D.nx } ρ S1 else D.nx ρ S1) (D.xx ρ)
theorem s_while {l : List Stmt} (hp : PassesOwn (model X.prog X.w) X.A X.env X.xe) (hc : TstA X W c tc ac) (hb : SsA X W l t a) : SA X W (.While c l [] pos) (tWhile tc t) (aWhile ac a) := by
  refine ⟨ps_while hp hc.pt hb.ps, fun σ H F S R ρ Da Dc T en wo dn q => ?_⟩
  obtain ⟨I, ⟨m0, i0⟩, turn⟩ := q
  refine ⟨fun m σ H => ∃ F1 S1 ρ1, Same F F1 ∧ Sta X.kw F1 S1 R H ∧ EnR X.kw F1 σ ρ1 ∧ I m ρ1 S1, ⟨m0, F, S, ρ, Same.refl _, T, en, i0⟩, ?_⟩
  rintro m σ1 H1 ⟨F1, S1, ρ1, e1, T1, en1, i1⟩
  refine hc.rt σ1 H1 F1 S1 R ρ1 _ _ _ T1 en1 ((wo.mono e1).at_ en1) (turn m ρ1 S1 i1) fun k H2 F2 S2 e2 T2 q2 => ?_
  have e12 := e1.trans e2
  cases k with
  | false => exact dn.nx σ1 H2 F2 S2 ρ1 e12 T2 (en1.mono e2) q2
  | true =>
    refine ⟨fun σ' H' => ∃ m', m' < m ∧ ∃ F3 S3 ρ3, Same F F3 ∧ Sta X.kw F3 S3 R H' ∧ EnR X.kw F3 σ' ρ3 ∧ I m' ρ3 S3, fun σ' H' z => z, ?_⟩
    have nxt : PostN X.kw F2 R (fun ρ' S' => ∃ m', m' < m ∧ I m' ρ' S') (fun σ' H' => ∃ m', m' < m ∧ ∃ F3 S3 ρ3, Same F F3 ∧ Sta X.kw F3 S3 R H' ∧ EnR X.kw F3 σ' ρ3 ∧ I m' ρ3 S3) :=
      fun σ' H' F3 S3 ρ3 e3 T3 en3 ⟨m', lt, i3⟩ => ⟨m', lt, F3, S3, ρ3, e12.trans e3, T3, en3, i3⟩
    refine hb.rs σ1 H2 F2 S2 R ρ1 { Da with nx := fun ρ' S' => ∃ m', m' < m ∧ I m' ρ' S', ct := fun ρ' S' => ∃ m', m' < m ∧ I m' ρ' S', bk := Da.nx } _ T2 (en1.mono e2) (wo.mono e12) ?_ q2
    exact ⟨nxt, dn.rt.mono e12, dn.nx.mono e12, nxt⟩

/-! ### what is walked -/
structure WkA (K : KW) (F : Hp) (J : It) (ds : List D) (G : Sto → Prop) : Prop where
  len : ds.length ≤ sizeLine
  stops : ∀ F' S' R' H', Same F F' → Sta K F' S' R' H' → G S' → J.stop ds.length H'
  goes : ∀ i d F' S' R' H', Same F F' → Sta K F' S' R' H' → G S' → ds[i]? = some d → J.go i H'
  yields : ∀ i d F' S' R' H' x H2, Same F F' → Sta K F' S' R' H' → G S' → ds[i]? = some d → J.yld i H' x H2 → ∃ F2, Same F' F2 ∧ Sta K F2 S' R' H2 ∧ Dv K F2 x d
abbrev AI := En → Sto → (List D → (Sto → Prop) → Sto → Prop) → KX → Prop
def RI (K : KW) (W : WX) (wi : TI) (ai : AI) : Prop :=
  ∀ σ H F S R ρ Q E (P : It → Hp → Prop), Sta K F S R H → EnR K F σ ρ → WOk K F R σ W E → ai ρ S Q E →
    (∀ J H' F' S' ds G, Same F F' → Sta K F' S' R H' → WkA K F' J ds G → Q ds G S' → P J H') → wi σ H P
structure IA (X : Cx) (W : WX) (tg it : Expr) (wi : TI) (ai : AI) : Prop where
  pi : PI X tg it wi
  ri : RI X.kw W wi ai
def aLoop (g : AG) (b : AS) (D : AEnds) (G : Sto → Prop) : List A.D → En → Sto → Prop
  | [], ρ, S => G S ∧ D.nx ρ S
  | d :: r, ρ, S => G S ∧ g d ρ S (fun ρ1 S1 => b { D with nx := aLoop g b D G r, ct := aLoop g b D G r, bk := D.nx } ρ1 S1) (D.xx ρ)
theorem aLoop_guard {g : AG} {b : AS} {D : AEnds} {G : Sto → Prop} {ds : List A.D} {ρ : En} {S : Sto} (h : aLoop g b D G ds ρ S) : G S := by
  cases ds with
  | nil => exact h.1
  | cons d r => exact h.1
def aFor (ai : AI) (g : AG) (b : AS) : AS := fun D ρ S => ai ρ S (fun ds G S1 => aLoop g b D G ds ρ S1) (D.xx ρ)
theorem s_for {tg it : Expr} {body : List Stmt} {wi : TI} {ai : AI} {g : TG} {ag : AG} (hp : PassesOwn (model X.prog X.w) X.A X.env X.xe) (hc : X.calm = true) (hi : IA X W tg it wi ai) (hg : GA X W tg g ag) (hb : SsA X W body t a)
    (hs : ∀ x, foldedSetIterable it X.env x = pure x := by intros; rfl) : SA X W (.For tg it body [] pos) (tFor wi g t) (aFor ai ag a) := by
  refine ⟨ps_for hp hc hi.pi hg.pg hb.ps hs, fun σ H F S R ρ Da Dc T en wo dn q => ?_⟩
  refine hi.ri σ H F S R ρ _ _ _ T en (wo.at_ en) q fun J H1 F1 S1 ds G e1 T1 wk q1 => ?_
  refine ⟨fun i m σ H => i ≤ ds.length ∧ m = ds.length - i ∧ ∃ F2 S2 ρ2, Same F1 F2 ∧ Sta X.kw F2 S2 R H ∧ EnR X.kw F2 σ ρ2 ∧ aLoop ag a Da G (ds.drop i) ρ2 S2,
    ⟨ds.length, Nat.zero_le _, by omega, F1, S1, ρ, Same.refl _, T1, en.mono e1, q1⟩, ?_⟩
  rintro i m σ2 H2 ⟨hi, rfl, F2, S2, ρ2, e2, T2, en2, q2⟩
  have gd := aLoop_guard q2
  have e12 := e1.trans e2
  by_cases lt : i < ds.length
  · right
    have hd : ds[i]? = some ds[i] := List.getElem?_eq_getElem lt
    rw [List.drop_eq_getElem_cons lt] at q2
    refine ⟨wk.goes i _ F2 S2 R H2 e2 T2 gd hd, fun σ' H' => ∃ F3 S3 ρ3, Same F1 F3 ∧ Sta X.kw F3 S3 R H' ∧ EnR X.kw F3 σ' ρ3 ∧ aLoop ag a Da G (ds.drop (i + 1)) ρ3 S3,
      fun σ' H' z => ⟨ds.length - (i + 1), by omega, lt, rfl, z⟩, fun x H3 y => ?_⟩
    obtain ⟨F3, e3, T3, dv⟩ := wk.yields i _ F2 S2 R H2 x H3 e2 T2 gd hd y
    have e13 := e12.trans e3
    refine hg.rg x _ σ2 H3 F3 S2 R ρ2 _ _ _ T3 (en2.mono e3) ((wo.mono e13).at_ (en2.mono e3)) dv q2.2 fun σ4 H4 F4 S4 ρ4 e4 T4 en4 q4 => ?_
    have e14 := e13.trans e4
    have nxt : PostN X.kw F4 R (aLoop ag a Da G (ds.drop (i + 1))) (fun σ' H' => ∃ F3 S3 ρ3, Same F1 F3 ∧ Sta X.kw F3 S3 R H' ∧ EnR X.kw F3 σ' ρ3 ∧ aLoop ag a Da G (ds.drop (i + 1)) ρ3 S3) :=
      fun σ' H' F5 S5 ρ5 e5 T5 en5 q5 => ⟨F5, S5, ρ5, ((e2.trans e3).trans e4).trans e5, T5, en5, q5⟩
    refine hb.rs σ4 H4 F4 S4 R ρ4 { Da with nx := aLoop ag a Da G (ds.drop (i + 1)), ct := aLoop ag a Da G (ds.drop (i + 1)), bk := Da.nx } _ T4 en4 (wo.mono e14) ?_ q4
    exact ⟨nxt, dn.rt.mono e14, dn.nx.mono e14, nxt⟩
  · left
    have ei : i = ds.length := by omega
    subst ei
    rw [List.drop_length] at q2
    exact ⟨wk.stops F2 S2 R H2 e2 T2 gd, dn.nx σ2 H2 F2 S2 ρ2 e12 T2 en2 q2.2⟩

theorem wk_list {K : KW} {F : Hp} {a : Addr} {xs : List V} {ds : List D} {G : Sto → Prop} (z : ds.length ≤ sizeLine) (h : ∀ F' S' R' H', Same F F' → Sta K F' S' R' H' → G S' → ∃ xs, SqL K.K H' a xs ∧ DvL K F' xs ds) : WkA K F (Itl K.K a) ds G := by
  refine ⟨z, fun F' S' R' H' e T g => ?_, fun i d F' S' R' H' e T g hd => ?_, fun i d F' S' R' H' x H2 e T g hd y => ?_⟩
  · obtain ⟨xs, h1, h2⟩ := h F' S' R' H' e T g
    exact ⟨xs, h1, Nat.le_of_eq h2.len⟩
  · obtain ⟨xs, h1, h2⟩ := h F' S' R' H' e T g
    obtain ⟨v, hv, _⟩ := h2.getD hd
    exact ⟨xs, v, h1, hv⟩
  · obtain ⟨xs, h1, h2⟩ := h F' S' R' H' e T g
    obtain ⟨v, hv, dv⟩ := h2.getD hd
    obtain ⟨e2, y2⟩ := y
    subst e2
    rw [y2 xs h1] at hv
    cases hv
    exact ⟨F', Same.refl _, T, dv⟩
theorem wk_tup {K : KW} {F : Hp} {a : Addr} {xs : List V} {ds : List D} {G : Sto → Prop} (z : ds.length ≤ sizeLine) (h1 : SqT K.K F a xs) (h2 : DvL K F xs ds) : WkA K F (Itt K.K a) ds G := by
  refine ⟨z, fun F' S' R' H' e T g => ⟨xs, SqT.same (e.trans T.le) h1, Nat.le_of_eq h2.len⟩, fun i d F' S' R' H' e T g hd => ?_, fun i d F' S' R' H' x H2 e T g hd y => ?_⟩
  · obtain ⟨v, hv, _⟩ := h2.getD hd
    exact ⟨xs, v, SqT.same (e.trans T.le) h1, hv⟩
  · obtain ⟨v, hv, dv⟩ := h2.getD hd
    obtain ⟨e2, y2⟩ := y
    subst e2
    rw [y2 xs (SqT.same (e.trans T.le) h1)] at hv
    cases hv
    exact ⟨F', Same.refl _, T, dv.mono e⟩
def iSeq (K : PySem.W.Frag) (tl : TE) : TI := fun σ H R => tl σ H fun x H1 =>
  (∃ a, x = .ref a ∧ (∃ xs, SqL K H1 a xs) ∧ R (Itl K a) H1) ∨ (∃ a, x = .ref a ∧ (∃ xs, SqT K H1 a xs) ∧ R (Itt K a) H1) ∨ ∃ z, x = .str z ∧ R (Its z) H1
theorem pi_seq {tg l : Expr} {tl : TE} (hl : PE X l tl) : PI X tg l (iSeq X.K tl) := by
  refine ⟨fun pins s σ H R I h => thn (hl.run pins s σ H _ I h) fun v s1 ⟨x, H1, I1, r1, q1⟩ => ?_⟩
  rcases q1 with ⟨a, rfl, ⟨xs, hq⟩, q⟩ | ⟨a, rfl, ⟨xs, hq⟩, q⟩ | ⟨z, rfl, q⟩
  · cases r1
    obtain ⟨its, rv, p, _⟩ := I1.list hq
    exact wpAny_pyIter_list p.isList (pi_one (tk := s1.toks) I1 _ (turn_list a _) ⟨_, Heap.get?_push_size _ rfl, rfl, rfl⟩ q)
  · cases r1
    obtain ⟨its, rv, p, _⟩ := I1.tuple hq
    exact wpAny_pyIter_tuple (show s1.heap.IsTuple a its.toArray from p) (pi_one (tk := s1.toks) I1 _ (turn_tuple a _) ⟨_, Heap.get?_push_size _ rfl, rfl, rfl⟩ q)
  · obtain ⟨t, rfl⟩ := r1
    cases ha : z.cps.all (· < 128) with
    | false => exact wpAny_pyIter_wide ha (pi_one (tk := s1.toks) I1 _ (turn_str _ z t "str_iterator" (.inr rfl)) ⟨_, Heap.get?_push_size _ rfl, rfl, rfl⟩ q)
    | true => exact wpAny_pyIter_ascii ha (pi_one (tk := s1.toks) I1 _ (turn_str _ z t "str_ascii_iterator" (.inl rfl)) ⟨_, Heap.get?_push_size _ rfl, rfl, rfl⟩ q)
/-- a text's signs, as texts -/
def signs (z : Str) : List D := z.cps.toList.map fun c => .str ⟨#[c]⟩
def aItD : D → Sto → (List D → (Sto → Prop) → Sto → Prop) → Prop
  | .lst ds, S, Q => Q ds (fun _ => True) S
  | .tup ds, S, Q => Q ds (fun _ => True) S
  | .scr ns, S, Q => Q (ns.map D.int) (fun _ => True) S
  | .str z, S, Q => z.cps.size ≤ sizeLine ∧ Q (signs z) (fun _ => True) S
  | .own p, S, Q => ∃ ds, S p = some (.lst ds) ∧ Q ds (fun S' => S' p = some (.lst ds)) S
  | _, _, _ => False
def aIter (a : AE) : AI := fun ρ S Q E => a ρ S (fun d S1 => aItD d S1 Q) E
theorem wk_str {K : KW} {F : Hp} {z : Str} {G : Sto → Prop} (h : z.cps.size ≤ sizeLine) : WkA K F (Its z) (signs z) G := by
  refine ⟨by unfold signs; simpa using h, fun F' S' R' H' e T g => ?_, fun i d F' S' R' H' e T g hd => ?_, fun i d F' S' R' H' x H2 e T g hd y => ?_⟩
  · show z.cps.size ≤ (signs z).length
    unfold signs
    simp
  · show i < z.cps.size
    have := (List.getElem?_eq_some_iff.mp hd).1
    unfold signs at this
    simpa using this
  · obtain ⟨e2, c, hc, ex⟩ := y
    subst e2 ex
    unfold signs at hd
    rw [List.getElem?_map] at hd
    have : z.cps.toList[i]? = some c := by simpa using hc
    rw [this] at hd
    cases hd
    exact ⟨F', Same.refl _, T, .str _⟩
theorem i_seq {tg it : Expr} (h : EA X W it te ae) : IA X W tg it (iSeq X.K te) (aIter ae) := by
  refine ⟨pi_seq h.pe, fun σ H F S R ρ Q E P T en wo q po => h.re σ H F S R ρ _ E _ T en wo q fun v H1 F1 S1 d e1 T1 dv q1 => ?_⟩
  cases dv with
  | lst hl z l =>
    refine .inl ⟨_, rfl, ⟨_, SqL.of (T1.le _ _ hl)⟩, po _ H1 F1 S1 _ _ e1 T1 (wk_list (xs := []) z fun F' S' R' H' e T' g => ⟨_, SqL.of ((e.trans T'.le) _ _ hl), l.mono e⟩) q1⟩
  | tup hl z l =>
    exact .inr (.inl ⟨_, rfl, ⟨_, SqT.same T1.le hl⟩, po _ H1 F1 S1 _ _ e1 T1 (wk_tup z hl l) q1⟩)
  | str z => exact .inr (.inr ⟨z, rfl, po _ H1 F1 S1 _ _ e1 T1 (wk_str q1.1) q1.2⟩)
  | scr h z =>
    refine .inl ⟨_, rfl, ⟨_, T1.le.seq h⟩, po _ H1 F1 S1 _ _ e1 T1 (wk_list (xs := []) (by rw [List.length_map]; exact z) fun F' S' R' H' e T' g => ⟨_, (e.trans T'.le).seq h, DvL.ints _⟩) q1⟩
  | own p =>
    obtain ⟨ds, e2, q2⟩ := q1
    obtain ⟨_, z, xs, h1, h2⟩ := T1.own _ _ e2
    refine .inl ⟨_, rfl, ⟨_, SqL.of h1⟩, po _ H1 F1 S1 _ _ e1 T1 (wk_list (xs := []) z fun F' S' R' H' e T' g => ?_) q2⟩
    obtain ⟨_, _, ys, h3, h4⟩ := T'.own _ _ g
    exact ⟨ys, SqL.of h3, h4⟩
  | _ => exact (show False from q1).elim
def rngD (lo : Int) (n : Nat) : List D := (List.range n).map fun (i : Nat) => .int (lo + (i : Int))
theorem wk_range {K : KW} {F : Hp} {lo : Int} {n : Nat} {G : Sto → Prop} (h : n ≤ sizeLine) : WkA K F (Itr lo n) (rngD lo n) G := by
  refine ⟨by unfold rngD; simpa using h, fun F' S' R' H' e T g => ?_, fun i d F' S' R' H' e T g hd => ?_, fun i d F' S' R' H' x H2 e T g hd y => ?_⟩
  · show n ≤ (rngD lo n).length
    unfold rngD
    simp
  · show i < n
    have := (List.getElem?_eq_some_iff.mp hd).1
    unfold rngD at this
    simpa using this
  · obtain ⟨e2, ex⟩ := y
    subst e2 ex
    have lt := (List.getElem?_eq_some_iff.mp hd).1
    unfold rngD at hd lt
    rw [List.length_map, List.length_range] at lt
    rw [List.getElem?_map, List.getElem?_range lt] at hd
    cases hd
    exact ⟨F', Same.refl _, T, .int _⟩
def aRng1 (ar : AA) : AI := fun ρ S Q E => ar ρ S (fun ds S1 => onL1 (fun j => -(2 ^ 62) ≤ j ∧ j ≤ 16777216 ∧ Q (rngD 0 j.toNat) (fun _ => True) S1) ds) E
def aRng2 (ar : AA) : AI := fun ρ S Q E => ar ρ S (fun ds S1 => onL2 (fun i j => -(2 ^ 62) ≤ i ∧ i < 2 ^ 61 ∧ -(2 ^ 62) ≤ j ∧ j - i ≤ 16777216 ∧ Q (rngD i (j - i).toNat) (fun _ => True) S1) ds) E
theorem i_range1 {tg x : Expr} {ta : TA} {ar : AA} {p : Pos} (hm : X.mg "range" = none) (h : ArA X W [x] ta ar) (hg : Gl X "range" := by rfl) (hs : starEach [x] X.env = [(false, eval x X.env)] := by rfl) :
    IA X W tg (.Call (.Name "range" p) [x] [] pos) (iRng1 ta) (aRng1 ar) := by
  refine ⟨pi_range1 hg hm h.pa hs, fun σ H F S R ρ Q E P T en wo q po => h.ra σ H F S R ρ _ E _ T en wo q fun vs H1 F1 S1 ds e1 T1 dvs q1 => ?_⟩
  cases dvs with
  | nil => exact (show False from q1).elim
  | cons h1 t1 =>
    cases t1 with
    | cons _ _ => cases h1 <;> exact (show False from q1).elim
    | nil =>
      cases h1 with
      | int j => exact ⟨j, rfl, q1.1, by have := q1.2.1; omega, po _ H1 F1 S1 _ _ e1 T1 (wk_range (by rw [sizeLine_eq]; have := q1.2.1; omega)) q1.2.2⟩
      | _ => exact (show False from q1).elim
theorem i_range2 {tg x y : Expr} {ta : TA} {ar : AA} {p : Pos} (hm : X.mg "range" = none) (h : ArA X W [x, y] ta ar) (hg : Gl X "range" := by rfl) (hs : starEach [x, y] X.env = [(false, eval x X.env), (false, eval y X.env)] := by rfl) (hs2 : starEach [y] X.env = [(false, eval y X.env)] := by rfl) :
    IA X W tg (.Call (.Name "range" p) [x, y] [] pos) (iRng2 ta) (aRng2 ar) := by
  refine ⟨pi_range2 hg hm h.pa hs hs2, fun σ H F S R ρ Q E P T en wo q po => h.ra σ H F S R ρ _ E _ T en wo q fun vs H1 F1 S1 ds e1 T1 dvs q1 => ?_⟩
  cases dvs with
  | nil => exact (show False from q1).elim
  | cons h1 t1 =>
    cases t1 with
    | nil => cases h1 <;> exact (show False from q1).elim
    | cons h2 t2 =>
      cases t2 with
      | cons _ _ => cases h1 <;> cases h2 <;> exact (show False from q1).elim
      | nil =>
        cases h1 with
        | int i =>
          cases h2 with
          | int j =>
            obtain ⟨q1, q2, q3, q4, q5⟩ := q1
            exact ⟨i, j, rfl, ⟨q1, by omega, q3, by omega⟩, po _ H1 F1 S1 _ _ e1 T1 (wk_range (by rw [sizeLine_eq]; omega)) q5⟩
          | _ => exact (show False from q1).elim
        | _ => exact (show False from q1).elim
end
end A

/-! ## comprehensions -/
namespace A
open PySem PySem.Spec L2 PyProof.Rows
def W0 : WX := fun _ _ _ _ => False
theorem tk0 {X : Cx} : Takes X W0 := L2.takes0
/-- the target stores into the block's own names alone -/
def WGt (vs : List Nat) (g : TG) : Prop := ∀ v (σ : St) H P, g v (wipe σ vs) H P → g v (wipe σ vs) H fun σ2 H2 => wipe σ2 vs = wipe σ vs ∧ P σ2 H2
theorem wipe_set : ∀ {vs : List Nat} {σ : St} {i : Nat} {x : Option V}, i ∈ vs → wipe (σ.set i x) vs = wipe σ vs
  | v :: vs, σ, i, x, h => by
    unfold wipe
    by_cases e : i ∈ vs
    · rw [wipe_set e]
    · have : i = v := by simpa [e] using h
      subst this
      have out : ∀ (l : List Nat) (τ : St), i ∉ l → wipe (τ.set i x) l = (wipe τ l).set i x := by
        intro l
        induction l with
        | nil => intro τ _; rfl
        | cons w l ih =>
          intro τ hn
          unfold wipe
          rw [ih τ (fun z => hn (List.mem_cons_of_mem _ z)), List.set_comm]
          intro z
          exact hn (by rw [z]; exact List.mem_cons_self)
      rw [out vs σ e, List.set_set]
theorem wipe_none {vs : List Nat} {σ : St} {i : Nat} (h : i ∈ vs) : (wipe σ vs).set i none = wipe σ vs := by
  induction vs with
  | nil => cases h
  | cons v vs ih =>
    unfold wipe
    by_cases e : i = v
    · subst e; rw [List.set_set]
    · have : i ∈ vs := by simpa [e] using h
      rw [List.set_comm _ _ (Ne.symm e), ih this]
theorem wipe_wipe {vs ws : List Nat} {σ : St} (h : ∀ i ∈ ws, i ∈ vs) : wipe (wipe σ vs) ws = wipe σ vs := by
  induction ws with
  | nil => rfl
  | cons w ws ih =>
    show (wipe (wipe σ vs) ws).set w none = _
    rw [ih fun i hi => h i (List.mem_cons_of_mem _ hi)]
    exact wipe_none (h w List.mem_cons_self)
theorem wgt_name {vs : List Nat} {i : Nat} (h : i ∈ vs) : WGt vs (gName i) := fun v σ H P q => ⟨by rw [wipe_set h, wipe_wipe fun i hi => hi], q⟩
/-- several of one's own names -/
def WGs (vs : List Nat) (g : TGs) : Prop := ∀ us (τ σ : St) H P, wipe τ vs = wipe σ vs → g us τ H P → g us τ H fun σ2 H2 => wipe σ2 vs = wipe σ vs ∧ P σ2 H2
theorem wgs_nil {vs : List Nat} : WGs vs gNil := fun us τ σ H P e q => ⟨q.1, e, q.2⟩
theorem wgs_cons {vs : List Nat} {i : Nat} {u : TGs} (h : i ∈ vs) (k : WGs vs u) : WGs vs (gCons (gName i) u) := by
  rintro us τ σ H P e ⟨v, r, rfl, q⟩
  exact ⟨v, r, rfl, k r (τ.set i (some v)) σ H P ((wipe_set h).trans e) q⟩
theorem wgt_tup {vs : List Nat} {K : PySem.W.Frag} {n : Nat} {u : TGs} (k : WGs vs u) : WGt vs (fun v σ H Q => gTup K n u v σ H Q ∨ gLst K n u v σ H Q) := by
  rintro v σ H P (⟨a, xs, e, h, l, q⟩ | ⟨a, xs, e, h, l, q⟩)
  · exact .inl ⟨a, xs, e, h, l, k xs _ σ H P (wipe_wipe fun i hi => hi) q⟩
  · exact .inr ⟨a, xs, e, h, l, k xs _ σ H P (wipe_wipe fun i hi => hi) q⟩
def wipeA (ρ : En) : List Nat → En
  | [] => ρ
  | v :: vs => (wipeA ρ vs).set v none
theorem EnR.wipe {K : KW} {F : Hp} {σ : St} {ρ : En} (h : EnR K F σ ρ) : ∀ vs : List Nat, EnR K F (L2.wipe σ vs) (wipeA ρ vs)
  | [] => h
  | _ :: vs => (EnR.wipe h vs).unset
structure TsA (X : Cx) (ifs : List Expr) (t : TT) (a : AT) : Prop where
  pt : PTs X ifs t
  rt : RT X.kw W0 t a
def aYes : AT := fun _ S Q _ => Q true S
theorem ts_nil {X : Cx} : TsA X [] tYes aYes := ⟨pts_nil, fun σ H F S R ρ Q E P T en wo q po => po true H F S (Same.refl _) T q⟩
theorem ts_one {X : Cx} {c : Expr} {t : TT} {a : AT} (h : TstA X W0 c t a) : TsA X [c] t a := ⟨pts_one h.pt, h.rt⟩
def aLcL (g : AG) (tt : AT) (e : AE) (G : Sto → Prop) (ρ : En) (Q : KD) : List A.D → List A.D → Sto → Prop
  | [], acc, S => G S ∧ NewL acc S Q
  | d :: r, acc, S => G S ∧ g d ρ S (fun ρ2 S2 => tt ρ2 S2 (fun b S3 => if b = true then e ρ2 S3 (fun v S4 => aLcL g tt e G ρ Q r (acc ++ [v]) S4) noX else aLcL g tt e G ρ Q r acc S3) noX) noX
theorem aLcL_guard {g : AG} {tt : AT} {e : AE} {G : Sto → Prop} {ρ : En} {Q : KD} {ds acc : List A.D} {S : Sto} (h : aLcL g tt e G ρ Q ds acc S) : G S := by
  cases ds with
  | nil => exact h.1
  | cons d r => exact h.1
def aLc (ai : AI) (g : AG) (tt : AT) (e : AE) (vs : List Nat) : AE := fun ρ S Q E => ai ρ S (fun ds G S1 => aLcL g tt e G (wipeA ρ vs) Q ds [] S1) E
section
variable {X : Cx} {W : WX} {elt tg iter : Expr} {ifs : List Expr} {scope : Scope} {own : List (Str × Nat)} {pos : Pos} {wi : TI} {ai : AI} {g : TG} {ag : AG} {tt : TT} {at_ : AT} {te : TE} {ae : AE}
/-- the least reading of a piece of syntax that has the data's one -/
def tOf (K : KW) (W : WX) (a : AE) : TE := fun σ H P => ∃ F S R ρ Q E, Sta K F S R H ∧ EnR K F σ ρ ∧ WOk K F R σ W E ∧ a ρ S Q E ∧ Post K F R Q P
def tOfT (K : KW) (W : WX) (a : AT) : TT := fun σ H P => ∃ F S R ρ Q E, Sta K F S R H ∧ EnR K F σ ρ ∧ WOk K F R σ W E ∧ a ρ S Q E ∧ PostB K F R Q P
theorem pe_of {X : Cx} {W : WX} {e : Expr} {t : TE} {a : AE} (h : EA X W e t a) : PE X e (tOf X.kw W a) :=
  ⟨fun pins s σ H Q I ⟨F, S, R, ρ, Q', E, T, en, wo, q, po⟩ => h.pe.run pins s σ H Q I (h.re σ H F S R ρ Q' E Q T en wo q po)⟩
theorem re_of {K : KW} {W : WX} {a : AE} : RE K W (tOf K W a) a := fun σ H F S R ρ Q E P T en wo q po => ⟨F, S, R, ρ, Q, E, T, en, wo, q, po⟩
theorem pts_of {X : Cx} {es : List Expr} {t : TT} {a : AT} (h : TsA X es t a) : PTs X es (tOfT X.kw W0 a) :=
  ⟨fun pins s σ H Q I ⟨F, S, R, ρ, Q', E, T, en, wo, q, po⟩ => h.pt.run pins s σ H Q I (h.rt σ H F S R ρ Q' E Q T en wo q po)⟩
theorem rt_of {K : KW} {W : WX} {a : AT} : RT K W (tOfT K W a) a := fun σ H F S R ρ Q E P T en wo q po => ⟨F, S, R, ρ, Q, E, T, en, wo, q, po⟩
theorem noWOk {K : KW} {F : Hp} {R : Sto} {σ : St} : WOk K F R σ W0 noX := fun _ _ _ _ _ _ _ _ _ q => q.elim
theorem re_lc {vs : List Nat} (hw : WGt vs g) (hi : RI X.kw W wi ai) (hg : RG X.kw W0 g ag) (ht : RT X.kw W0 tt at_) (he : RE X.kw W0 te ae) : RE X.kw W (tLc wi g tt te vs) (aLc ai ag at_ ae vs) := by
  intro σ H F S R ρ Q E P T en wo q po
  refine hi σ H F S R ρ _ E _ T en wo q fun J H1 F1 S1 ds G e1 T1 wk q1 => ?_
  intro p hp
  obtain ⟨fF, fS, fR⟩ := T1.free hp
  refine ⟨fun i m H => i ≤ ds.length ∧ m = ds.length - i ∧ ∃ F2 S2 acc, acc.length ≤ i ∧ Same F1 F2 ∧ Sta X.kw F2 S2 (put R p (.lst acc)) H ∧ aLcL ag at_ ae G (wipeA ρ vs) Q (ds.drop i) acc S2,
    ⟨ds.length, Nat.zero_le _, by omega, F1, S1, [], Nat.zero_le _, Same.refl _, T1.hide hp ⟨Nat.zero_le _, [], upd_same, .nil⟩, q1⟩, ?_⟩
  rintro i m H2 ⟨hi, rfl, F2, S2, acc, hl, e2, T2, q2⟩
  have gd := aLcL_guard q2
  have e12 := e1.trans e2
  have en2 := (en.wipe vs).mono e12
  by_cases lt : i < ds.length
  · right
    have hd : ds[i]? = some ds[i] := List.getElem?_eq_getElem lt
    rw [List.drop_eq_getElem_cons lt] at q2
    refine ⟨wk.goes i _ F2 S2 _ H2 e2 T2 gd hd, fun H' => ∃ F3 S3 acc, acc.length ≤ i + 1 ∧ Same F1 F3 ∧ Sta X.kw F3 S3 (put R p (.lst acc)) H' ∧ aLcL ag at_ ae G (wipeA ρ vs) Q (ds.drop (i + 1)) acc S3,
      fun H' z => ⟨ds.length - (i + 1), by omega, lt, rfl, z⟩, fun x H3 y => ?_⟩
    obtain ⟨F3, e3, T3, dv⟩ := wk.yields i _ F2 S2 _ H2 x H3 e2 T2 gd hd y
    refine hw x σ H3 _ (hg x _ _ H3 F3 S2 _ _ _ noX _ T3 (en2.mono e3) noWOk dv q2.2 fun σ4 H4 F4 S4 ρ4 e4 T4 en4 q4 => ?_)
    refine ht σ4 H4 F4 S4 _ ρ4 _ noX _ T4 en4 noWOk q4 fun b H5 F5 S5 e5 T5 q5 => ?_
    have e25 := ((e2.trans e3).trans e4).trans e5
    cases b with
    | false => exact ⟨F5, S5, acc, by omega, e25, T5, q5⟩
    | true =>
      refine he σ4 H5 F5 S5 _ ρ4 _ noX _ T5 (en4.mono e5) noWOk q5 fun v H6 F6 S6 d e6 T6 dv6 q6 => ?_
      obtain ⟨hF, hS, z, xs, hx, hxs⟩ := T6.hid p _ put_same
      have zl := wk.len
      have hz : xs.length = acc.length := hxs.len
      refine ⟨xs, hx, by omega, F6, S6, acc ++ [d], by simp; omega, e25.trans e6, T6.hwrite ⟨by simp; omega, xs ++ [v], upd_same, hxs.append (.cons dv6 .nil)⟩, q6⟩
  · left
    have ei : i = ds.length := by omega
    subst ei
    rw [List.drop_length] at q2
    refine ⟨wk.stops F2 S2 _ H2 e2 T2 gd, ?_⟩
    obtain ⟨hF, hS, z, xs, hx, hxs⟩ := T2.hid p _ put_same
    rcases q2.2 with q3 | q3
    · have T3 := (T2.unhide fR).freeze hx hS fR hF
      exact po (.ref p) H2 _ S2 (.lst acc) (e12.trans (same_upd hF)) T3 (.lst upd_same z (hxs.mono (same_upd hF))) q3
    · exact po (.ref p) H2 F2 _ (.own p) e12 (T2.show fR) (.own p) (q3 p hS)
/-- [elt for tg in iter if ..] -/
theorem ea_lc (hc : X.calm = true) (hN : X.N.Nodup) (hi : IA X W tg iter wi ai) (ok : BlkOk X.N X.env.scope scope own) (hw : WGt (own.map (·.2)) g)
    (hg : ∀ (s : Shared) (H : Hp) (C : Addr) (cl : List (Str × Addr)) (fp : List Addr), GA (X.blk s H scope (compEnvC scope cl C X.env) fp) W0 tg g ag)
    (ht : ∀ (s : Shared) (H : Hp) (C : Addr) (cl : List (Str × Addr)) (fp : List Addr), ∃ tt, TsA (X.blk s H scope (compEnvC scope cl C X.env) fp) ifs tt at_)
    (he : ∀ (s : Shared) (H : Hp) (C : Addr) (cl : List (Str × Addr)) (fp : List Addr), ∃ te, EA (X.blk s H scope (compEnvC scope cl C X.env) fp) W0 elt te ae)
    (z : Shared × Hp × Addr × List (Str × Addr) × List Addr)
    (hs : ∀ x, foldedSetIterable iter X.env x = pure x := by intros; rfl) : EA X W (.ListComp elt [⟨tg, iter, ifs, 0⟩] scope pos) (tLc wi g (tOfT X.kw W0 at_) (tOf X.kw W0 ae) (own.map (·.2))) (aLc ai ag at_ ae (own.map (·.2))) :=
  ⟨pe_lc hc hN hi.pi ok (fun s H C cl fp => (hg s H C cl fp).pg) (fun s H C cl fp => let ⟨_, h⟩ := ht s H C cl fp; pts_of h) (fun s H C cl fp => let ⟨_, h⟩ := he s H C cl fp; pe_of h) hs,
    re_lc hw hi.ri (hg z.1 z.2.1 z.2.2.1 z.2.2.2.1 z.2.2.2.2).rg rt_of re_of⟩
/-- name = [..] -/
theorem s_setLc {i : Nat} {y : Str} {py spos : Pos} (hc : X.calm = true) (hN : X.N.Nodup) (hi : IA X W tg iter wi ai) (ok : BlkOk X.N X.env.scope scope own) (hw : WGt (own.map (·.2)) g)
    (hg : ∀ (s : Shared) (H : Hp) (C : Addr) (cl : List (Str × Addr)) (fp : List Addr), GA (X.blk s H scope (compEnvC scope cl C X.env) fp) W0 tg g ag)
    (ht : ∀ (s : Shared) (H : Hp) (C : Addr) (cl : List (Str × Addr)) (fp : List Addr), ∃ tt, TsA (X.blk s H scope (compEnvC scope cl C X.env) fp) ifs tt at_)
    (he : ∀ (s : Shared) (H : Hp) (C : Addr) (cl : List (Str × Addr)) (fp : List Addr), ∃ te, EA (X.blk s H scope (compEnvC scope cl C X.env) fp) W0 elt te ae)
    (z : Shared × Hp × Addr × List (Str × Addr) × List Addr)
    (hy : X.N[i]? = some y := by rfl) (hyl : X.env.scope.names.lookup y = some .local := by rfl)
    (hsw : swapsWith (.ListComp elt [⟨tg, iter, ifs, 0⟩] scope pos) (some (.Name y py)) spos.line X.env = pure true := by exact sw_true rfl rfl rfl (by decide +kernel))
    (hs : ∀ x, foldedSetIterable iter X.env x = pure x := by intros; rfl) :
    SA X W (.Assign [.Name y py] (.ListComp elt [⟨tg, iter, ifs, 0⟩] scope pos) spos) (tAsg (tLc wi g (tOfT X.kw W0 at_) (tOf X.kw W0 ae) (own.map (·.2))) (gName i)) (aSet i (aLc ai ag at_ ae (own.map (·.2)))) :=
  ⟨ps_setLc hc hN hy hyl hsw hi.pi ok (fun s H C cl fp => (hg s H C cl fp).pg) (fun s H C cl fp => let ⟨_, h⟩ := ht s H C cl fp; pts_of h) (fun s H C cl fp => let ⟨_, h⟩ := he s H C cl fp; pe_of h) hs,
    fun σ H F S R ρ Da Dc T en wo dn q => re_lc hw hi.ri (hg z.1 z.2.1 z.2.2.1 z.2.2.2.1 z.2.2.2.2).rg rt_of re_of σ H F S R ρ _ _ _ T en (wo.at_ en) q
      fun v H1 F1 S1 d e1 T1 dv q1 => dn.nx _ H1 F1 S1 _ e1 T1 ((en.mono e1).set dv) q1⟩
end
end A

/-! ## defs, methods, instances -/
namespace A
open PySem PySem.Spec L2 PyProof.Rows

/-- another view of a value and of one's own objects: a list is data from now on, what plays no part is forgotten -/
def Gh (d : D) (S : Sto) (d' : D) (S' : Sto) : Prop := ∀ K F R H v, Sta K F S R H → Dv K F v d → ∃ F', Same F F' ∧ Sta K F' S' R H ∧ Dv K F' v d'
theorem gh_refl {d : D} {S : Sto} : Gh d S d S := fun K F R H v T dv => ⟨F, Same.refl _, T, dv⟩
theorem gh_drop {d : D} {S S' : Sto} (h : Sub S' S) : Gh d S d S' := fun K F R H v T dv => ⟨F, Same.refl _, T.drop h, dv⟩
theorem gh_freeze {p : Addr} {ds : List D} {S S' : Sto} (h : Sub S' S) (e : S p = some (.lst ds)) (n : S' p = none) : Gh (.own p) S (.lst ds) S' := fun K F R H v T dv => by
  cases dv with
  | own _ =>
    obtain ⟨hF, z, xs, hx, hxs⟩ := T.own p _ e
    have hR : R p = none := by
      cases q : R p with
      | none => rfl
      | some c => rw [(T.hid p c q).2.1] at e; cases e
    exact ⟨_, same_upd hF, (T.drop h).freeze hx n hR hF, .lst upd_same z (hxs.mono (same_upd hF))⟩
def Ret (Q : KD) : KD := fun d S => ∃ d' S', Gh d S d' S' ∧ Q d' S'
theorem ret {Q : KD} {d : D} {S : Sto} (h : Q d S) : Ret Q d S := ⟨d, S, gh_refl, h⟩
theorem ret_drop {Q : KD} {d : D} {S S' : Sto} (h : Q d S') (e : Sub S' S) : Ret Q d S := ⟨d, S', gh_drop e, h⟩
theorem ret_freeze {Q : KD} {p : Addr} {ds : List D} {S S' : Sto} (q : Q (.lst ds) S') (h : Sub S' S) (e : S p = some (.lst ds)) (n : S' p = none) : Ret Q (.own p) S := ⟨_, S', gh_freeze h e n, q⟩
theorem ret_post {K : KW} {F : Hp} {R : Sto} {Q : KD} {P : VK} (po : Post K F R Q P) : Post K F R (Ret Q) P := by
  rintro v H' F' S' d e T dv ⟨d', S2, g, q⟩
  obtain ⟨F2, e2, T2, dv2⟩ := g K F' R H' v T dv
  exact po v H' F2 S2 d' (e.trans e2) T2 dv2 q
def RetX (E : KX) : KX := fun x S => ∃ S', Sub S' S ∧ E x S'

abbrev SpA := List D → Sto → KD → KX → Prop
/-- what the heap has to bear for an abstract promise -/
def csp (K : KW) (sp : SpA) : Sp := fun vs H Qc Ec => ∃ ds F S R Q E, DvL K F vs ds ∧ Sta K F S R H ∧ sp ds S Q E ∧ Post K F R Q Qc ∧
  ∀ cls dd H' F' S' x, Same F F' → Sta K F' S' R H' → XR K F' H' cls dd x → E x S' → Ec cls dd H'
structure FnA (P : Program) (w : World) (K : PySem.W.Frag) (mg : Str → Option Value) (base : Heap) (k : Nat) (f : Addr) (fd : FuncData) (ps : List Str) (sp : SpA) : Prop where
  g : FnG P w K mg base k f fd ps (csp ⟨K, w⟩ sp)
section
variable {P : Program} {w : World} {K : PySem.W.Frag} {mg : Str → Option Value} {base : Heap}
theorem FnA.mono {j k : Nat} {f : Addr} {fd : FuncData} {ps : List Str} {sp : SpA} (F : FnA P w K mg base j f fd ps sp) (h : j ≤ k) : FnA P w K mg base k f fd ps sp := ⟨F.g.mono h⟩
theorem FnA.imp {k : Nat} {f : Addr} {fd : FuncData} {ps : List Str} {sp sp' : SpA} (F : FnA P w K mg base k f fd ps sp) (h : ∀ ds S Q E, sp' ds S Q E → sp ds S (Ret Q) (RetX E)) : FnA P w K mg base k f fd ps sp' := by
  refine ⟨F.g.imp ?_⟩
  rintro vs H Qc Ec ⟨ds, F, S, R, Q, E, dv, T, q, po, wx⟩
  refine ⟨ds, F, S, R, Ret Q, RetX E, dv, T, h ds S Q E q, ret_post po, ?_⟩
  rintro cls dd H' F' S' x e T' xr ⟨S2, sub, q2⟩
  exact wx cls dd H' F' S2 x e (T'.drop sub) xr q2
/-- the names' values at the entry -/
def startA (N : List Str) (ds : List D) : En := ds.map some ++ List.replicate (N.length - ds.length) none
theorem start_ok {K : KW} {F : Hp} {N : List Str} {vs : List V} {ds : List D} (h : DvL K F vs ds) : EnR K F (L2.start N vs) (startA N ds) := by
  have hl := h.len
  refine ⟨by unfold L2.start startA; simp [hl], fun i d q => ?_⟩
  unfold startA at q
  by_cases hi : i < ds.length
  · rw [List.getElem?_append_left (by simpa using hi), List.getElem?_map] at q
    cases e : ds[i]? with
    | none => rw [e] at q; cases q
    | some d' =>
      rw [e] at q
      cases q
      obtain ⟨v, h1, h2⟩ := h.getD e
      refine ⟨v, ?_, h2⟩
      unfold L2.start
      rw [List.getElem?_append_left (by rw [List.length_map]; omega), List.getElem?_map, h1]
      rfl
  · rw [List.getElem?_append_right (by simpa using hi), List.getElem?_replicate] at q
    split at q <;> cases q
abbrev wOf (E : XK) : WX := fun cls d _ H => E cls d H
def aEnd (Q : KD) (E : KX) : AEnds := { nx := fun _ S => Ret Q .non S, rt := Ret Q, xx := fun _ => RetX E }
theorem fnA_of {x qual : Str} {params : Arguments} {body : List Stmt} {scope : Scope} {dvs : List V} {kws : List (Str × V)} {f : Addr} {fd : FuncData} {N ps : List Str} {k : Nat} {sp : SpA} {a : AS}
    (F : FunD K x qual params body scope dvs kws f fd) (S : FnScope N ps scope) (len : ∀ ds S Q E, sp ds S Q E → ds.length = ps.length)
    (hb : ∀ (cdv : Value) (A : Around) (outer : List Env) (s : Shared) (H : Hp) (E : XK), RoomG k (A.deeper (envOfC qual scope s.heap.objs.size f cdv)) →
      ∃ t, SsA (cxOf (XT P w) P w K mg base N qual scope f cdv A outer s H E) (wOf E) body t a)
    (ha : ∀ ds S Q E, sp ds S Q E → a (aEnd Q E) (startA N ds) S) : FnA P w K mg base (k + 1) f fd ps sp := by
  refine ⟨fnG_of F S ?_ ?_⟩
  · rintro vs H Qc Ec ⟨ds, F, S, R, Q, E, dv, T, q, _⟩
    exact dv.len.trans (len ds S Q E q)
  · rintro cdv A outer s H vs Qc Ec hr ⟨ds, F', S', R, Q, E, dv, T, q, po, wx⟩
    obtain ⟨t, h⟩ := hb cdv A outer s H Ec hr
    refine ⟨t, h.ps, h.rs _ H F' S' R (startA N ds) (aEnd Q E) _ T (start_ok dv) ?_ ⟨?_, ret_post po, ?_, ?_⟩ (ha ds S' Q E q)⟩
    · rintro cls dd σ' H' F2 S2 ρ' x e T2 en xr ⟨S3, sub, q2⟩
      exact wx cls dd H' F2 S3 x e (T2.drop sub) xr q2
    · intro σ' H' F2 S2 ρ' e T2 en q2
      exact ret_post po .non H' F2 S2 .non e T2 .non q2
    · intro _ _ _ _ _ _ _ _ q2; exact q2.elim
    · intro _ _ _ _ _ _ _ _ q2; exact q2.elim
end
theorem takesT {P : Program} {w : World} {K : PySem.W.Frag} {mg : Str → Option Value} {base : Heap} {N : List Str} {qual : Str} {scope : Scope} {f : Addr} {cd : Value} {A : Around} {outer : List Env} {s : Shared} {H : Hp} {E : XK} :
    Takes (cxOf (XT P w) P w K mg base N qual scope f cd A outer s H E) (wOf E) := takes_of rfl rfl rfl rfl
theorem passT {P : Program} {w : World} {K : PySem.W.Frag} {mg : Str → Option Value} {base : Heap} {N : List Str} {qual : Str} {scope : Scope} {f : Addr} {cd : Value} {A : Around} {outer : List Env} {s : Shared} {H : Hp} {E : XK} :
    PassesOwn (model (cxOf (XT P w) P w K mg base N qual scope f cd A outer s H E).prog (cxOf (XT P w) P w K mg base N qual scope f cd A outer s H E).w) (cxOf (XT P w) P w K mg base N qual scope f cd A outer s H E).A
      (cxOf (XT P w) P w K mg base N qual scope f cd A outer s H E).env (cxOf (XT P w) P w K mg base N qual scope f cd A outer s H E).xe := passes_of rfl

/-! ### calls -/
/-- the module's name x is a def that keeps sp -/
structure GF (P : Program) (w : World) (K : PySem.W.Frag) (mg : Str → Option Value) (base : Heap) (x : Str) (k : Nat) (ps : List Str) (sp : SpA) : Prop where
  ex : ∃ f fd, mg x = some (.ref f) ∧ PySem.W.keepIn K (.ref f) = true ∧ Binds K fd ps [] ∧ FnA P w K mg base k f fd ps sp
/-- .. and what stands for its last parameters where they lack: dvs -/
structure GFd (P : Program) (w : World) (K : PySem.W.Frag) (mg : Str → Option Value) (base : Heap) (x : Str) (k : Nat) (ps : List Str) (dvs : List D) (sp : SpA) : Prop where
  ex : ∃ f fd vs us, mg x = some (.ref f) ∧ PySem.W.keepIn K (.ref f) = true ∧ Vals vs us ∧ (∀ F, DvL ⟨K, w⟩ F vs dvs) ∧ Binds K fd ps us ∧ FnA P w K mg base k f fd ps sp
section
variable {X : Cx} {W : WX} {k : Nat} {ps : List Str} {sp : SpA} {x m : Str} {p pos apos : Pos} {e o : Expr} {es : List Expr} {t : TA} {ar : AA} {to : TE} {ao : AE}
def tCl (K : KW) (W : WX) (sp : SpA) (t : TA) : TE := fun σ H Q => t σ H fun vs H1 => csp K sp vs H1 Q (WE W σ)
def aCl (sp : SpA) (ar : AA) : AE := fun ρ S Q E => ar ρ S (fun ds S1 => sp ds S1 (Ret Q) E) E
theorem csp_ok {K : KW} {F H : Hp} {S R : Sto} {σ : St} {vs : List V} {ds : List D} {Q : KD} {P : VK} {E : KX} (T : Sta K F S R H) (wo : WOk K F R σ W E) (dv : DvL K F vs ds) (q : sp ds S (Ret Q) E) (po : Post K F R Q P) :
    csp K sp vs H P (WE W σ) := ⟨ds, F, S, R, Ret Q, E, dv, T, q, ret_post po, fun cls dd H' F' S' x e T' xr q' => wo cls dd H' F' S' x e T' xr q'⟩
theorem re_cl (h : RA X.kw W t ar) : RE X.kw W (tCl X.kw W sp t) (aCl sp ar) := fun σ H F S R ρ Q E P T en wo q po =>
  h σ H F S R ρ _ E _ T en wo q fun vs H1 F1 S1 ds e1 T1 dvs q1 => csp_ok T1 (wo.mono e1) dvs q1 (po.mono e1)
theorem ea_call (G : GF X.prog X.w X.K X.mg X.base x k ps sp) (hr : RoomG k X.A) (tk : Takes X W) (h : ArA X W (e :: es) t ar) (hg : Gl X x := by rfl) (hdb : (x == ("__debug__" : Str)) = false := by decide)
    (he : starEach (e :: es) X.env = (false, eval e X.env) :: starEach es X.env := by rfl) (hpl : (backTo pos (starEach es X.env)).any (·.1) = false := by rfl) :
    EA X W (.Call (.Name x p) (e :: es) [] pos) (tCl X.kw W sp t) (aCl sp ar) := by
  obtain ⟨f, fd, hm, kp, hb, F⟩ := G.ex
  refine ⟨⟨fun pins s σ H Q I q => wpAny_Call_Name_kw (ld_glob I hg hm ?_ hdb)⟩, re_cl h.ra⟩
  refine PySem.W.callWith_K (h₀ := X.base) I.ok.mod.kin kp (thn (h.pa.run pos pins s σ H _ I q) fun us s1 ⟨vs, H1, I1, r, q1⟩ => ⟨I1.kIn, ?_⟩) he hpl
  have hl : (us ++ []).length = ps.length := by rw [List.append_nil, ← r.length]; exact F.g.len _ _ _ _ q1
  have hb' := hb s1 us I1.kIn hl
  rw [List.append_nil] at hb'
  exact run_g F.g hr tk I1 hb' r q1
/-- the last parameters lack -/
def aClD (sp : SpA) (dvs : List D) (ar : AA) : AE := fun ρ S Q E => ar ρ S (fun ds S1 => sp (ds ++ dvs) S1 (Ret Q) E) E
/-! ### instances -/
/-- the class at C: fields may be read and stored (those that it has not itself) -/
structure MF (P : Program) (w : World) (K : PySem.W.Frag) (mg : Str → Option Value) (base : Heap) (C : Addr) (m : Str) (k : Nat) (ps : List Str) (sp : SpA) : Prop where
  cl : Cls K C
  ex : ∃ f fd, Meth K C m f ∧ Binds K fd ps [] ∧ FnA P w K mg base k f fd ps sp
def insOf (S : Sto) (d : D) : Option (Addr × List (Str × D)) := match d with
  | .own a => match S a with | some (.ins C fs) => some (C, fs) | _ => none
  | _ => none
theorem insOf_ok {K : KW} {F H : Hp} {S R : Sto} {v : V} {d : D} {C : Addr} {fs : List (Str × D)} (T : Sta K F S R H) (h : Dv K F v d) (q : insOf S d = some (C, fs)) :
    ∃ a dx gs, d = .own a ∧ v = .ref a ∧ S a = some (.ins C fs) ∧ H a = some (.ins C dx gs) ∧ DvP K F gs fs := by
  cases h with
  | own a =>
    have q2 : (match S a with | some (.ins C fs) => some (C, fs) | _ => none) = some (C, fs) := q
    split at q2
    · rename_i C' fs' e
      cases q2
      obtain ⟨_, dx, gs, h1, h2⟩ := T.own _ _ e
      exact ⟨a, dx, gs, rfl, rfl, e, h1, h2⟩
    · cases q2
  | _ => cases q
theorem DvP.none {κ : Type} [BEq κ] {K : KW} {F : Hp} {l : List (κ × V)} {q : List (κ × D)} {k : κ} (h : DvP K F l q) (e : q.lookup k = none) : l.lookup k = none := by
  rcases h.lookup (k := k) with ⟨_, z⟩ | ⟨d, v, z, _⟩
  · exact z
  · rw [e] at z; cases z
theorem DvP.some {κ : Type} [BEq κ] {K : KW} {F : Hp} {l : List (κ × V)} {q : List (κ × D)} {k : κ} {d : D} (h : DvP K F l q) (e : q.lookup k = some d) : ∃ v, l.lookup k = some v ∧ Dv K F v d := by
  rcases h.lookup (k := k) with ⟨z, _⟩ | ⟨d', v, z, z2, z3⟩
  · rw [e] at z; cases z
  · rw [e] at z; cases z; exact ⟨v, z2, z3⟩
/-- o.m(e, ..): any of the classes that ok tells -/
def tMt (K : KW) (W : WX) (ok : Addr → Prop) (m : Str) (sp : SpA) (to : TE) (t : TA) : TE := fun σ H Q => to σ H fun x H1 => ∃ a C dx gs, x = .ref a ∧ ok C ∧ H1 a = some (.ins C dx gs) ∧ gs.lookup m = none ∧
  t σ H1 fun vs H2 => csp K sp (x :: vs) H2 Q (WE W σ)
def aMt (ok : Addr → Prop) (m : Str) (sp : SpA) (ao : AE) (ar : AA) : AE := fun ρ S Q E => ao ρ S (fun d S1 => ∃ C fs, insOf S1 d = some (C, fs) ∧ ok C ∧ fs.lookup m = none ∧ ar ρ S1 (fun ds S2 => sp (d :: ds) S2 (Ret Q) E) E) E
theorem re_mt {ok : Addr → Prop} (ho : RE X.kw W to ao) (h : RA X.kw W t ar) : RE X.kw W (tMt X.kw W ok m sp to t) (aMt ok m sp ao ar) := fun σ H F S R ρ Q E P T en wo q po =>
  ho σ H F S R ρ _ E _ T en wo q fun v H1 F1 S1 d e1 T1 dv ⟨C, fs, hi, okC, hn, q1⟩ => by
    obtain ⟨a, dx, gs, rfl, rfl, hS, hH, hp⟩ := insOf_ok T1 dv hi
    refine ⟨a, C, dx, gs, rfl, okC, hH, hp.none hn, ?_⟩
    exact h σ H1 F1 S1 R ρ _ E _ T1 (en.mono e1) (wo.mono e1) q1 fun vs H2 F2 S2 ds e2 T2 dvs q2 => csp_ok T2 (wo.mono (e1.trans e2)) (.cons (dv.mono e2) dvs) q2 (po.mono (e1.trans e2))
theorem ea_meth0 {ok : Addr → Prop} {pl : Sem Bool} (ho : EA X W o to ao) (M : ∀ C, ok C → MF X.prog X.w X.K X.mg X.base C m k ps sp) (hr : RoomG k X.A) (tk : Takes X W)
    (ht : eval (.Call (.Attribute o m apos) [] [] pos) X.env = (do
      let ov ← eval o X.env
      standAt apos.atName
      let (f, first) ← holding [ov] (getMethod ov m pl)
      callWith pos f first (backTo pos (starEach [] X.env)) (backToKw pos (keywordEach [] X.env))) := by rfl) :
    EA X W (.Call (.Attribute o m apos) [] [] pos) (tMt X.kw W ok m sp to tNil) (aMt ok m sp ao aNil) := by
  refine ⟨⟨fun pins s σ H Q I q => ?_⟩, re_mt ho.re (ar_nil (W := W)).ra⟩
  refine PySem.W.methodCall_KW (pl := pl) (thn (ho.pe.run pins s σ H _ I q) fun u s1 ⟨x, H1, I1, rx, a, C, dx, gs, ex, okC, ea, l, q1⟩ => ?_) ht
  subst ex
  cases rx
  have MC := M C okC
  obtain ⟨f, fd, hm, hb, F⟩ := MC.ex
  refine getmeth_ok I1 ea MC.cl hm l ?_
  have r2 : Vals [.ref a] [.ref a] := .cons rfl .nil
  have hb' := hb s1 [.ref a] I1.kIn (by rw [List.append_nil, ← r2.length]; exact F.g.len _ _ _ _ q1)
  exact PySem.W.callWith_K0 (first := [.ref a]) I1.kIn hm.kp (run_g F.g hr tk I1 hb' r2 q1)
/-- C(e, ..) -/
structure CF (P : Program) (w : World) (K : PySem.W.Frag) (mg : Str → Option Value) (base : Heap) (x : Str) (C : Addr) (k : Nat) (ps : List Str) (sp : SpA) : Prop where
  ex : ∃ f fd, mg x = some (.ref C) ∧ Mk K C f ∧ Binds K fd ps [] ∧ FnA P w K mg base k f fd ps sp
def tMkA (K : KW) (W : WX) (C : Addr) (sp : SpA) (t : TA) : TE := fun σ H Q => t σ H fun vs H1 => ∀ y dx, H1 y = none → H1 dx = none → dx ≠ y →
  csp K sp (.ref y :: vs) (upd (upd H1 dx (.own y)) y (.ins C dx [])) (fun v H2 => v = .non ∧ Q (.ref y) H2) (WE W σ)
def aMk (C : Addr) (sp : SpA) (ar : AA) : AE := fun ρ S Q E => ar ρ S (fun ds S1 => ∀ y, S1 y = none → sp (.own y :: ds) (put S1 y (.ins C [])) (Ret fun v S2 => v = .non ∧ Ret Q (.own y) S2) E) E
theorem Sta.junk {K : KW} {F H : Hp} {S R : Sto} {p : Addr} {u : HO} (T : Sta K F S R H) (h : H p = none) : Sta K F S R (upd H p u) := by
  have kH : Same H (upd H p u) := same_upd h
  exact ⟨T.le.trans kH, fun b c e => ⟨(T.own b c e).1, (T.own b c e).2.mono (Same.refl _) fun u z => kH b u z⟩, fun b c e => ⟨(T.hid b c e).1, (T.hid b c e).2.1, (T.hid b c e).2.2.mono (Same.refl _) fun u z => kH b u z⟩⟩
theorem re_mk {C : Addr} (h : RA X.kw W t ar) : RE X.kw W (tMkA X.kw W C sp t) (aMk C sp ar) := fun σ H F S R ρ Q E P T en wo q po =>
  h σ H F S R ρ _ E _ T en wo q fun vs H1 F1 S1 ds e1 T1 dvs q1 => by
    intro y dx hy hdx ne
    have T2 := T1.junk (u := .own y) hdx
    have hy2 : upd H1 dx (.own y) y = none := by rw [upd_ne (Ne.symm ne)]; exact hy
    have T3 := T2.owned (c := .ins C []) hy2 ⟨dx, [], upd_same, .nil⟩
    refine ⟨.own y :: ds, F1, _, R, _, E, .cons (.own y) dvs, T3, q1 y (T1.free hy).2.1, ?_, wo.mono e1⟩
    refine ret_post fun v H2 F2 S2 d e2 T4 dv q2 => ?_
    obtain ⟨rfl, q3⟩ := q2
    cases dv
    exact ⟨rfl, ret_post (po.mono (e1.trans e2)) (.ref y) H2 F2 S2 (.own y) (Same.refl _) T4 (.own y) q3⟩
theorem ea_make {C : Addr} (G : CF X.prog X.w X.K X.mg X.base x C k ps sp) (hr : RoomG (k + 1) X.A) (tk : Takes X W) (h : ArA X W (e :: es) t ar) (hg : Gl X x := by rfl) (hdb : (x == ("__debug__" : Str)) = false := by decide)
    (he : starEach (e :: es) X.env = (false, eval e X.env) :: starEach es X.env := by rfl) (hpl : (backTo pos (starEach es X.env)).any (·.1) = false := by rfl) :
    EA X W (.Call (.Name x p) (e :: es) [] pos) (tMkA X.kw W C sp t) (aMk C sp ar) := by
  obtain ⟨f, fd, hm, M, hb, F⟩ := G.ex
  refine ⟨⟨fun pins s σ H Q I q => wpAny_Call_Name_kw (ld_glob I hg hm ?_ hdb)⟩, re_mk h.ra⟩
  refine PySem.W.callWith_K (h₀ := X.base) I.ok.mod.kin M.kp (thn (h.pa.run pos pins s σ H _ I q) fun us s1 ⟨vs, H1, I1, r, q1⟩ => ⟨I1.kIn, ?_⟩) he hpl
  refine run_mk M F.g hr tk I1 (fun z => z) (fun z => z) (fun s2 y hK => ?_) r q1
  have hl : vs.length + 1 = ps.length := F.g.len _ _ _ _ (q1 (s1.heap.objs.size + 1) s1.heap.objs.size (I1.hok.fresh (Nat.le_succ _)) (I1.hok.fresh (Nat.le_refl _)) (Nat.ne_of_lt (Nat.lt_succ_self _)))
  have hb' := hb s2 (y :: us) hK (by rw [List.append_nil, List.length_cons, ← r.length]; exact hl)
  rw [List.append_nil] at hb'
  exact hb'
/-! ### fields -/
structure FdOk (K : PySem.W.Frag) (C : Addr) (f : Str) : Prop where
  cl : Cls K C
  no : NoAttr K C f
def aFl (ok : Addr → Prop) (f : Str) (ao : AE) : AE := fun ρ S Q E => ao ρ S (fun d S1 => ∃ C fs g, insOf S1 d = some (C, fs) ∧ ok C ∧ fs.lookup f = some g ∧ Q g S1) E
theorem ea_fld {ok : Addr → Prop} {f : Str} (ho : EA X W o to ao) (M : ∀ C, ok C → FdOk X.K C f) (hb : attributeBase o f X.env (eval o X.env) = eval o X.env := by rfl) : EA X W (.Attribute o f pos) (tFld X.K to f) (aFl ok f ao) := by
  refine ⟨pe_fld ho.pe hb, fun σ H F S R ρ Q E P T en wo q po => ho.re σ H F S R ρ _ E _ T en wo q fun v H1 F1 S1 d e1 T1 dv ⟨C, fs, g, hi, okC, hl, q1⟩ => ?_⟩
  obtain ⟨a, dx, gs, rfl, rfl, hS, hH, hp⟩ := insOf_ok T1 dv hi
  obtain ⟨v, h1, h2⟩ := hp.some hl
  exact ⟨a, C, dx, gs, v, rfl, hH, (M C okC).cl, (M C okC).no, h1, po v H1 F1 S1 g e1 T1 h2 q1⟩
def putA (f : Str) (d : D) : List (Str × D) → List (Str × D)
  | [] => [(f, d)]
  | p :: r => if p.1 = f then (f, d) :: r else p :: putA f d r
theorem DvP.put {K : KW} {F : Hp} {f : Str} {v : V} {d : D} (h : Dv K F v d) : ∀ {l : List (Str × V)} {q : List (Str × D)}, DvP K F l q → DvP K F (putF f v l) (putA f d q)
  | _, _, .nil => .cons ⟨rfl, h⟩ .nil
  | (k1, v1) :: l, (k2, d1) :: q, .cons h1 t => by
    have e : k1 = k2 := h1.1
    subst e
    unfold putF putA
    by_cases z : k1 = f
    · subst z
      rw [if_pos rfl, if_pos rfl]
      exact .cons ⟨rfl, h⟩ t
    · rw [if_neg z, if_neg z]
      exact .cons h1 (DvP.put h t)
def aFst (ok : Addr → Prop) (f : Str) (ao av : AE) : AS := fun D ρ S => av ρ S (fun d S1 => ao ρ S1 (fun o S2 => ∃ a C fs, o = .own a ∧ S2 a = some (.ins C fs) ∧ ok C ∧ fs.length < 1000 ∧ D.nx ρ (put S2 a (.ins C (putA f d fs)))) (D.xx ρ)) (D.xx ρ)
theorem s_fld {ok : Addr → Prop} {f : Str} {value : Expr} {tv : TE} {av : AE} {pos' : Pos} (hv : EA X W value tv av) (ho : EA X W o to ao) (M : ∀ C, ok C → FdOk X.K C f) (hs : swapsWith value (some (.Attribute o f pos')) pos.line X.env = pure false := by rfl) :
    SA X W (.Assign [.Attribute o f pos'] value pos) (sFld X.K to tv f) (aFst ok f ao av) := by
  refine ⟨ps_fld ho.pe hv.pe hs, fun σ H F S R ρ Da Dc T en wo dn q => hv.re σ H F S R ρ _ _ _ T en (wo.at_ en) q fun v H1 F1 S1 d e1 T1 dv q1 => ?_⟩
  refine ho.re σ H1 F1 S1 R ρ _ _ _ T1 (en.mono e1) ((wo.at_ en).mono e1) q1 fun u H2 F2 S2 o e2 T2 du q2 => ?_
  obtain ⟨a, C, fs, rfl, hS, okC, hz, q3⟩ := q2
  obtain ⟨a', dx, gs, e3, rfl, hS', hH, hp⟩ := insOf_ok (d := .own a) (C := C) (fs := fs) T2 du (by show (match S2 a with | some (.ins C fs) => some (C, fs) | _ => none) = _; rw [hS])
  cases e3
  have hlen : gs.length = fs.length := by
    have : ∀ {l : List (Str × V)} {q : List (Str × D)}, DvP X.kw F2 l q → l.length = q.length := fun h => Paired.length h
    exact this hp
  refine ⟨a, C, dx, gs, rfl, hH, (M C okC).cl, (M C okC).no, by omega, ?_⟩
  exact dn.nx σ _ F2 _ ρ (e1.trans e2) (T2.write (c' := .ins C (putA f d fs)) hS ⟨dx, _, upd_same, hp.put (dv.mono e2)⟩) (en.mono (e1.trans e2)) q3
end
end A

/-! ## data as a whole: ==, in, repr; operators, built-in functions by values -/
namespace A
open PySem PySem.Spec L2 PyProof.Rows

/-! ### deep data -/
def rdL (f : D → Option PyData) : List D → Option (List PyData)
  | [] => some []
  | d :: r => match f d, rdL f r with
    | some p, some q => some (p :: q)
    | _, _ => none
def rd (S : Sto) : Nat → D → Option PyData
  | 0, _ => none
  | n + 1, d => match d with
    | .non => some .none
    | .bl b => some (.bool b)
    | .int i => some (.int i)
    | .str x => if PyData.strOk x then some (.str x) else none
    | .lst l => (rdL (rd S n) l).map .list
    | .tup l => (rdL (rd S n) l).map .tuple
    | .own a => match S a with | some (.lst l) => (rdL (rd S n) l).map .list | _ => none
    | _ => none
/-- the value is to be read as p in every heap that H tells -/
theorem rd_dp {K : KW} {F H : Hp} {S R : Sto} (T : Sta K F S R H) : ∀ (n : Nat) (d : D) (v : V) (p : PyData), Dv K F v d → rd S n d = some p → Dp K.K H v p := by
  intro n
  induction n with
  | zero => intro d v p _ e; cases e
  | succ n ih =>
    have all : ∀ (l : List D) (xs : List V) (q : List PyData), DvL K F xs l → rdL (rd S n) l = some q → DpAll K.K H xs q := by
      intro l
      induction l with
      | nil =>
        intro xs q h e
        cases h
        cases e
        exact .nil
      | cons d l ihl =>
        intro xs q h e
        cases h with
        | cons h1 h2 =>
          unfold rdL at e
          cases e1 : rd S n d with
          | none => rw [e1] at e; cases e
          | some p =>
            cases e2 : rdL (rd S n) l with
            | none => rw [e1, e2] at e; cases e
            | some q' =>
              rw [e1, e2] at e
              cases e
              exact .cons (ih d _ p h1 e1) (ihl _ q' h2 e2)
    intro d v p h e
    cases h with
    | non => cases e; exact .non
    | bl b => cases e; exact .bl b
    | int i => cases e; exact .int i
    | str x =>
      have e' : (if PyData.strOk x then some (PyData.str x) else none) = some p := e
      split at e' <;> cases e'
      exact .str x
    | lst h z l =>
      have e' : (rdL (rd S n) _).map PyData.list = some p := e
      obtain ⟨q, e1, e2⟩ := Option.map_eq_some_iff.mp e'
      subst e2
      exact .lst (SqL.of (T.le _ _ h)) (all _ _ q l e1)
    | tup h z l =>
      have e' : (rdL (rd S n) _).map PyData.tuple = some p := e
      obtain ⟨q, e1, e2⟩ := Option.map_eq_some_iff.mp e'
      subst e2
      exact .tup (SqT.same T.le h) (all _ _ q l e1)
    | own a =>
      have e' : (match S a with | some (.lst l) => (rdL (rd S n) l).map PyData.list | _ => none) = some p := e
      split at e'
      · rename_i l hl
        obtain ⟨q, e1, e2⟩ := Option.map_eq_some_iff.mp e'
        subst e2
        obtain ⟨_, z, xs, h1, h2⟩ := T.own _ _ hl
        exact .lst (SqL.of h1) (all _ _ q h2 e1)
      · cases e'
    | _ => cases e
theorem rdL_map {α : Type} {f : D → Option PyData} {g : α → D} {h : α → PyData} (e : ∀ a, f (g a) = some (h a)) : ∀ l : List α, rdL f (l.map g) = some (l.map h)
  | [] => rfl
  | a :: l => by
    rw [List.map_cons, List.map_cons]
    show (match f (g a), rdL f (l.map g) with | some p, some q => some (p :: q) | _, _ => none) = _
    rw [e a, rdL_map e l]
/-- what is read may be compared and shown -/
theorem rd_lay {S : Sto} : ∀ (n : Nat) (d : D) (p : PyData), rd S n d = some p → p.canLay0 = true ∧ p.depth ≤ n := by
  intro n
  induction n with
  | zero => intro d p e; cases e
  | succ n ih =>
    have all : ∀ (l : List D) (q : List PyData), rdL (rd S n) l = some q → PyData.canLayAll0 q = true ∧ PyData.depthAll q ≤ n := by
      intro l
      induction l with
      | nil => intro q e; cases e; exact ⟨rfl, Nat.zero_le _⟩
      | cons d l ihl =>
        intro q e
        unfold rdL at e
        cases e1 : rd S n d with
        | none => rw [e1] at e; cases e
        | some p =>
          cases e2 : rdL (rd S n) l with
          | none => rw [e1, e2] at e; cases e
          | some q' =>
            rw [e1, e2] at e
            cases e
            obtain ⟨h1, h2⟩ := ih d p e1
            obtain ⟨h3, h4⟩ := ihl q' e2
            exact ⟨by simp only [PyData.canLayAll0, h1, h3, Bool.and_self], by simp only [PyData.depthAll]; omega⟩
    have fin : ∀ (l : List D) (p : PyData) (g : List PyData → PyData), (∀ q, (g q).canLay0 = PyData.canLayAll0 q ∧ (g q).depth = PyData.depthAll q + 1) → (rdL (rd S n) l).map g = some p → p.canLay0 = true ∧ p.depth ≤ n + 1 := by
      intro l p g hg e
      obtain ⟨q, e1, rfl⟩ := Option.map_eq_some_iff.mp e
      obtain ⟨h1, h2⟩ := all l q e1
      obtain ⟨g1, g2⟩ := hg q
      exact ⟨g1.trans h1, by omega⟩
    have hl : ∀ q, (PyData.list q).canLay0 = PyData.canLayAll0 q ∧ (PyData.list q).depth = PyData.depthAll q + 1 := fun q => ⟨by simp only [PyData.canLay0], by simp only [PyData.depth]⟩
    have ht : ∀ q, (PyData.tuple q).canLay0 = PyData.canLayAll0 q ∧ (PyData.tuple q).depth = PyData.depthAll q + 1 := fun q => ⟨by simp only [PyData.canLay0], by simp only [PyData.depth]⟩
    intro d p e
    cases d with
    | non => cases e; exact ⟨rfl, Nat.zero_le _⟩
    | bl b => cases e; exact ⟨rfl, Nat.zero_le _⟩
    | int i => cases e; exact ⟨rfl, Nat.zero_le _⟩
    | str x =>
      have e' : (if PyData.strOk x then some (PyData.str x) else none) = some p := e
      split at e'
      · rename_i h
        cases e'
        exact ⟨by simp only [PyData.canLay0, h], Nat.zero_le _⟩
      · cases e'
    | lst l => exact fin l p _ hl e
    | tup l => exact fin l p _ ht e
    | own a =>
      have e' : (match S a with | some (.lst l) => (rdL (rd S n) l).map PyData.list | _ => none) = some p := e
      split at e'
      · exact fin _ p _ hl e'
      · cases e'
    | _ => cases e
theorem rd_shaped {S : Sto} {n : Nat} {d : D} {p : PyData} (h : rd S n d = some p) (hn : n ≤ 60) : SeqAt.shaped p = true := by
  obtain ⟨h1, h2⟩ := rd_lay n d p h
  unfold SeqAt.shaped
  rw [h1, decide_eq_true (by omega : p.depth ≤ 64)]
  rfl
/-- == -/
def aEqD (neg : Bool) : O2 := fun d e S Q => match d, e with
  | .int i, .int j => Q (.bl (if neg then !decide (i = j) else decide (i = j))) S
  | .str i, .str j => Q (.bl (if neg then !decide (i = j) else decide (i = j))) S
  | .bl i, .bl j => Q (.bl (if neg then !decide (i = j) else decide (i = j))) S
  | d, e => ∃ n p q, n ≤ 60 ∧ rd S n d = some p ∧ rd S n e = some q ∧ Q (.bl (if neg then !PyData.eqv p q else PyData.eqv p q)) S
theorem eqD_ok {K : KW} {neg : Bool} {f : V → V → Bool} (hf : ∀ x y, f x y = (if neg then !decide (x = y) else decide (x = y))) : R2k K (fun x y H Q => (scal x y = true ∧ Q (.bl (f x y)) H) ∨ ∃ d e, Dp K.K H x d ∧ Dp K.K H y e ∧ SeqAt.shaped d = true ∧ SeqAt.shaped e = true ∧ Q (.bl (if neg then !PyData.eqv d e else PyData.eqv d e)) H) (aEqD neg) := by
  intro x y d e H F S R Q P T dx dy q po
  have deep : (∃ n p q, n ≤ 60 ∧ rd S n d = some p ∧ rd S n e = some q ∧ Q (.bl (if neg then !PyData.eqv p q else PyData.eqv p q)) S) → (scal x y = true ∧ P (.bl (f x y)) H) ∨ ∃ d e, Dp K.K H x d ∧ Dp K.K H y e ∧ SeqAt.shaped d = true ∧ SeqAt.shaped e = true ∧ P (.bl (if neg then !PyData.eqv d e else PyData.eqv d e)) H := by
    rintro ⟨n, p, p', hn, h1, h2, q⟩
    exact .inr ⟨p, p', rd_dp T n d x p dx h1, rd_dp T n e y p' dy h2, rd_shaped h1 hn, rd_shaped h2 hn, po _ H F S _ (Same.refl _) T (.bl _) q⟩
  unfold aEqD at q
  split at q
  · cases dx; cases dy
    exact .inl ⟨rfl, po _ H F S _ (Same.refl _) T (.bl _) (by rw [hf]; simpa using q)⟩
  · cases dx; cases dy
    exact .inl ⟨rfl, po _ H F S _ (Same.refl _) T (.bl _) (by rw [hf]; simpa using q)⟩
  · cases dx; cases dy
    exact .inl ⟨rfl, po _ H F S _ (Same.refl _) T (.bl _) (by rw [hf]; simpa using q)⟩
  · exact deep q
theorem o_eq {X : Cx} (hr : ∃ k, RoomG k X.A) : OpA X (compareOp .Eq) (fun x y H Q => rEq x y H Q ∨ rEqD X.K x y H Q) (aEqD false) := by
  obtain ⟨k, hr⟩ := hr
  exact ⟨op_eq.or (op_eqD hr.room.units), eqD_ok (neg := false) fun _ _ => rfl⟩
theorem o_ne {X : Cx} (hr : ∃ k, RoomG k X.A) : OpA X (compareOp .NotEq) (fun x y H Q => rNe x y H Q ∨ rNeD X.K x y H Q) (aEqD true) := by
  obtain ⟨k, hr⟩ := hr
  exact ⟨op_ne.or (op_neD hr.room.units), eqD_ok (neg := true) fun _ _ => rfl⟩

/-! ### ints -/
section
variable {X : Cx}
def aI2 (C : Int → Int → Prop) (g : Int → Int → D) : O2 := fun d e S Q => onII (fun i j => C i j ∧ Q (g i j) S) d e
theorem k_i2 {K : KW} {C : Int → Int → Prop} {g : Int → Int → V} {g' : Int → Int → D} (hg : ∀ F i j, Dv K F (g i j) (g' i j)) : R2k K (rI C g) (aI2 C g') := by
  intro x y d e H F S R Q P T dx dy q po
  cases dx with
  | int i =>
    cases dy with
    | int j => exact ⟨i, j, rfl, rfl, q.1, po _ H F S _ (Same.refl _) T (hg F i j) q.2⟩
    | _ => exact (show False from q).elim
  | _ => exact (show False from q).elim
def aI20 (g : Int → Int → D) : O2 := fun d e S Q => onII (fun i j => Q (g i j) S) d e
theorem k_i20 {K : KW} {g : Int → Int → V} {g' : Int → Int → D} (hg : ∀ F i j, Dv K F (g i j) (g' i j)) : R2k K (rI0 g) (aI20 g') := by
  intro x y d e H F S R Q P T dx dy q po
  cases dx with
  | int i =>
    cases dy with
    | int j => exact ⟨i, j, rfl, rfl, po _ H F S _ (Same.refl _) T (hg F i j) q⟩
    | _ => exact (show False from q).elim
  | _ => exact (show False from q).elim
abbrev aSub : O2 := aI20 fun i j => .int (i - j)
theorem o_sub : OpA X (binaryOp .Sub) (rI0 fun i j => .int (i - j)) aSub := ⟨op_sub, k_i20 fun _ _ _ => .int _⟩
abbrev aMod : O2 := aI2 (fun _ j => 0 < j) fun i j => .int (i % j)
theorem o_mod : OpA X (binaryOp .Mod) (rI (fun _ j => 0 < j) fun i j => .int (i % j)) aMod := ⟨op_mod, k_i2 fun _ _ _ => .int _⟩
abbrev aFdv : O2 := aI2 CDivW fun i j => .int (i / j)
theorem o_fdiv : OpA X (binaryOp .FloorDiv) (rI CDivW fun i j => .int (i / j)) aFdv := ⟨op_fdivW, k_i2 fun _ _ _ => .int _⟩
abbrev aPow : O2 := aI2 CPow fun i j => .int (i ^ j.toNat)
theorem o_pow : OpA X (binaryOp .Pow) (rI CPow fun i j => .int (i ^ j.toNat)) aPow := ⟨op_pow, k_i2 fun _ _ _ => .int _⟩
abbrev aShl : O2 := aI2 CPow fun i j => .int (i * 2 ^ j.toNat)
abbrev aShr : O2 := aI2 (fun _ j => 0 ≤ j) fun i j => .int (i / 2 ^ j.toNat)
abbrev aXor : O2 := aI20 fun i j => .int (Builtin.bitXor i j)
theorem o_bxor : OpA X (binaryOp .BitXor) (rI0 fun i j => .int (Builtin.bitXor i j)) aXor := ⟨op_xor, k_i20 fun _ _ _ => .int _⟩
abbrev aLt : O2 := aI20 fun i j => .bl (decide (i < j))
theorem o_lt : OpA X (compareOp .Lt) (rI0 fun i j => .bl (decide (i < j))) aLt := ⟨op_lt, k_i20 fun _ _ _ => .bl _⟩
abbrev aLe : O2 := aI20 fun i j => .bl (decide (i ≤ j))
theorem o_le : OpA X (compareOp .LtE) (rI0 fun i j => .bl (decide (i ≤ j))) aLe := ⟨op_le, k_i20 fun _ _ _ => .bl _⟩
abbrev aGt : O2 := aI20 fun i j => .bl (decide (j < i))
theorem o_gt : OpA X (compareOp .Gt) (rI0 fun i j => .bl (decide (j < i))) aGt := ⟨op_gt, k_i20 fun _ _ _ => .bl _⟩
abbrev aGe : O2 := aI20 fun i j => .bl (decide (j ≤ i))
def aNeg : O1 := fun d S Q => onI (fun i S => Q (.int (-i)) S) d S
/-- the left or the right factor is below 2 ^ 64 -/
abbrev aMul : O2 := aI2 CMul fun i j => .int (i * j)
theorem o_mul : OpA X (binaryOp .Mult) (rI CMul fun i j => .int (i * j)) aMul := ⟨op_mul, k_i2 fun _ _ _ => .int _⟩
/-- a + b -/
def aAdd : D → D → Sto → KD → Prop
  | .int i, .int j, S, Q => Q (.int (i + j)) S
  | .str x, .str y, S, Q => x.length + y.length ≤ sizeLine ∧ Q (.str (x ++ y)) S
  | d, e, S, Q => ∃ xs ys, asL S d = some xs ∧ asL S e = some ys ∧ xs.length + ys.length ≤ sizeLine ∧ NewL (xs ++ ys) S Q
def rAddS : R2 := fun x y H Q => ∃ i j, x = .str i ∧ y = .str j ∧ i.length + j.length ≤ sizeLine ∧ Q (.str (i ++ j)) H
theorem o_add : OpA X (binaryOp .Add) (fun x y H Q => rI0 (fun i j => .int (i + j)) x y H Q ∨ rAddS x y H Q ∨ rCat x y H Q) aAdd := by
  refine ⟨op_add.or (op_add_str.or op_cat), fun x y d e H F S R Q P T dx dy q po => ?_⟩
  have lists : (∃ xs ys, asL S d = some xs ∧ asL S e = some ys ∧ xs.length + ys.length ≤ sizeLine ∧ NewL (xs ++ ys) S Q) → rCat x y H P := by
    rintro ⟨xs, ys, h1, h2, hz, q⟩
    obtain ⟨a, vs, rfl, ha, hv, _⟩ := asL_ok T dx h1
    obtain ⟨b, ws, rfl, hb, hw, _⟩ := asL_ok T dy h2
    exact ⟨a, b, vs, ws, rfl, rfl, ha, hb, by rw [hv.len, hw.len]; exact hz, newL_ok T (hv.append hw) (by rw [List.length_append]; exact hz) q po⟩
  cases dx with
  | int i =>
    cases dy with
    | int j => exact .inl ⟨i, j, rfl, rfl, po _ H F S _ (Same.refl _) T (.int _) q⟩
    | _ => exact .inr (.inr (lists q))
  | str i =>
    cases dy with
    | str j => exact .inr (.inl ⟨i, j, rfl, rfl, q.1, po _ H F S _ (Same.refl _) T (.str _) q.2⟩)
    | _ => exact .inr (.inr (lists q))
  | _ => exact .inr (.inr (lists q))
/-- x is None, x is True .. -/
def aIs (neg : Bool) : D → D → Sto → KD → Prop
  | .bl a, .bl b, S, Q => Q (.bl (if neg then !decide (a = b) else decide (a = b))) S
  | .non, .non, S, Q => Q (.bl (!neg)) S
  | .int _, .non, S, Q | .str _, .non, S, Q | .lst _, .non, S, Q | .tup _, .non, S, Q | .own _, .non, S, Q | .bl _, .non, S, Q => Q (.bl neg) S
  | _, _, _, _ => False
/-- x in xs -/
def aIn (neg : Bool) : O2 := fun d e S Q => ∃ n p ps, n ≤ 60 ∧ rd S n d = some p ∧ rd S n e = some (.list ps) ∧
  Q (.bl (if neg then !ps.any fun z => PyData.eqv z p else ps.any fun z => PyData.eqv z p)) S
theorem o_notin (hr : ∃ k, RoomG k X.A) : OpA X (compareOp .NotIn) (rNotInD X.K) (aIn true) := by
  obtain ⟨k, hr⟩ := hr
  refine ⟨op_notInD (by have := hr.room.un; omega), fun x y d e H F S R Q P T dx dy q po => ?_⟩
  obtain ⟨n, p, ps, hn, h1, h2, q⟩ := q
  exact ⟨p, ps, rd_dp T n d x p dx h1, rd_dp T n e y _ dy h2, rd_shaped h1 hn, rd_shaped h2 hn, po _ H F S _ (Same.refl _) T (.bl _) q⟩
end
end A

/-! ## places, slices, stores, the built-in functions and the methods of lists -/
namespace A
open PySem PySem.Spec L2 PyProof.Rows

section
variable {K : KW} {F H : Hp} {S R : Sto}
theorem DvL.atI {vs : List V} {ds : List D} {i : Int} {d : D} (h : DvL K F vs ds) (e : atI ds i = some d) : ∃ v, L2.atI vs i = some v ∧ Dv K F v d := by
  unfold L2.atI at e ⊢
  rw [h.len]
  cases q : ixN ds.length i with
  | none => rw [q] at e; cases e
  | some j => rw [q] at e; exact h.getD e
/-- the value at a place -/
def aIx : D → D → Sto → KD → Prop
  | .lst l, .int i, S, Q => ∃ x, atI l i = some x ∧ Q x S
  | .tup l, .int i, S, Q => ∃ x, atI l i = some x ∧ Q x S
  | .scr l, .int i, S, Q => ∃ x, atI l i = some x ∧ Q (.int x) S
  | .str z, .int i, S, Q => z.length ≤ sizeLine ∧ ∃ c, atI z.cps.toList i = some c ∧ Q (.str ⟨#[c]⟩) S
  | .own a, .int i, S, Q => match S a with
    | some (.lst l) => ∃ x, atI l i = some x ∧ Q x S
    | some .pot => ∀ x y, PotOk x y → ∃ z, atI [x, y] i = some z ∧ Q (.int z) S
    | _ => False
  | _, _, _, _ => False
theorem ix_ok : R2k K (rIx K.K) aIx := by
  intro x y d e H F S R Q P T dx dy q po
  cases dy with
  | int i =>
    cases dx with
    | lst h z l =>
      obtain ⟨w, h1, h2⟩ := q
      obtain ⟨v, h3, h4⟩ := l.atI h1
      exact .inl ⟨_, _, i, v, rfl, rfl, SqL.of (T.le _ _ h), h3, po v H F S w (Same.refl _) T h4 h2⟩
    | tup h z l =>
      obtain ⟨w, h1, h2⟩ := q
      obtain ⟨v, h3, h4⟩ := l.atI h1
      exact .inr (.inl ⟨_, _, i, v, rfl, rfl, SqT.same T.le h, h3, po v H F S w (Same.refl _) T h4 h2⟩)
    | scr h z =>
      obtain ⟨w, h1, h2⟩ := q
      refine .inl ⟨_, _, i, .int w, rfl, rfl, T.le.seq h, ?_, po (.int w) H F S (.int w) (Same.refl _) T (.int w) h2⟩
      unfold L2.atI at h1 ⊢
      rw [List.length_map]
      cases e : ixN _ i with
      | none => rw [e] at h1; cases h1
      | some j =>
        rw [e] at h1
        show (List.map V.int _)[j]? = some (V.int w)
        rw [List.getElem?_map]
        exact congrArg (Option.map V.int) h1
    | str z =>
      obtain ⟨h0, c, h1, h2⟩ := q
      exact .inr (.inr ⟨z, i, c, rfl, rfl, h0, h1, po _ H F S _ (Same.refl _) T (.str _) h2⟩)
    | own a =>
      have q2 : (match S a with
        | some (.lst l) => ∃ x, atI l i = some x ∧ Q x S
        | some .pot => ∀ x y, PotOk x y → ∃ z, atI [x, y] i = some z ∧ Q (.int z) S
        | _ => False) := q
      split at q2
      · rename_i l hS
        obtain ⟨w, h1, h2⟩ := q2
        obtain ⟨_, z, xs, h3, h4⟩ := T.own _ _ hS
        obtain ⟨v, h5, h6⟩ := h4.atI h1
        exact .inl ⟨_, _, i, v, rfl, rfl, SqL.of h3, h5, po v H F S w (Same.refl _) T h6 h2⟩
      · rename_i hS
        obtain ⟨_, x, y, h3, h4⟩ := T.own _ _ hS
        obtain ⟨w, h1, h2⟩ := q2 x y h4
        refine .inl ⟨_, _, i, .int w, rfl, rfl, SqL.of h3, ?_, po (.int w) H F S (.int w) (Same.refl _) T (.int w) h2⟩
        unfold L2.atI at h1 ⊢
        cases e : ixN [x, y].length i with
        | none => rw [e] at h1; cases h1
        | some j =>
          rw [e] at h1
          have : ([x, y].map V.int)[j]? = some (V.int w) := by
            rw [List.getElem?_map]
            exact congrArg (Option.map V.int) h1
          exact this
      · exact (show False from q2).elim
    | _ => exact (show False from q).elim
  | _ => cases d <;> exact (show False from q).elim
/-- o[i] = v -/
def aPut : D → D → D → Sto → (Sto → Prop) → Prop
  | .own a, .int k, v, S, Q => match S a with
    | some (.lst l) => ∃ j, ixN l.length k = some j ∧ Q (put S a (.lst (l.set j v)))
    | some .pot => ∃ n, v = .int n ∧ ((k = 0 ∧ 0 ≤ n ∧ n.natAbs.log2 < 2 ^ 20 + 64) ∨ (k = 1 ∧ 0 ≤ n ∧ n < 2147483648)) ∧ Q S
    | _ => False
  | _, _, _, _, _ => False
theorem put_ok {x y z : V} {o i v : D} {Q : Sto → Prop} {P : Hp → Prop} (T : Sta K F S R H) (dx : Dv K F x o) (dy : Dv K F y i) (dz : Dv K F z v) (q : aPut o i v S Q)
    (po : ∀ H' S', Sta K F S' R H' → Q S' → P H') : rSetL x y z H P := by
  cases dx with
  | own a =>
    cases dy with
    | int k =>
      have q2 : (match S a with
        | some (.lst l) => ∃ j, ixN l.length k = some j ∧ Q (put S a (.lst (l.set j v)))
        | some .pot => ∃ n, v = .int n ∧ ((k = 0 ∧ 0 ≤ n ∧ n.natAbs.log2 < 2 ^ 20 + 64) ∨ (k = 1 ∧ 0 ≤ n ∧ n < 2147483648)) ∧ Q S
        | _ => False) := q
      split at q2
      · rename_i l hS
        obtain ⟨j, h1, h2⟩ := q2
        obtain ⟨hF, zl, xs, h3, h4⟩ := T.own _ _ hS
        refine ⟨a, xs, k, j, rfl, rfl, h3, by rw [h4.len]; exact h1, po _ _ (T.write (c' := .lst (l.set j v)) hS ⟨by rw [List.length_set]; exact zl, _, upd_same, h4.set j dz⟩) h2⟩
      · rename_i hS
        obtain ⟨n, rfl, h1, h2⟩ := q2
        cases dz
        obtain ⟨hF, x, y, h3, h4⟩ := T.own _ _ hS
        have fin : ∀ j x' y', [V.int x, V.int y].set j (V.int n) = [V.int x', V.int y'] → PotOk x' y' → P (upd H a (.lst ([V.int x, V.int y].set j (V.int n)))) := fun j x' y' e p => by
          have T2 := T.write (a := a) (o := .lst [V.int x', V.int y']) (c' := .pot) hS ⟨x', y', upd_same, p⟩
          rw [put_id hS] at T2
          rw [e]
          exact po _ _ T2 h2
        rcases h1 with ⟨rfl, g1, g2⟩ | ⟨rfl, g1, g2⟩
        · exact ⟨a, _, 0, 0, rfl, rfl, h3, rfl, fin 0 n y rfl ⟨g1, g2, h4.2.2⟩⟩
        · exact ⟨a, _, 1, 1, rfl, rfl, h3, rfl, fin 1 x n rfl ⟨h4.1, h4.2.1, g1, g2⟩⟩
      · exact (show False from q2).elim
    | _ => exact (show False from q).elim
  | _ => exact (show False from q).elim
end
section
variable {X : Cx} {W : WX} {a b e o i : Expr} {ta tb te to ti : TE} {aa ab ae ao ai : AE} {pos p : Pos}
theorem ea_ix (ha : EA X W a ta aa) (hb : EA X W b tb ab) (hs : PlainIx b := by intro _ _; rfl) : EA X W (.Subscript a b pos) (tOp (rIx X.K) ta tb) (aOp aIx aa ab) := ⟨pe_ix ix_seq ha.pe hb.pe hs, re_op ix_ok ha.re hb.re⟩
def agSub (ao ai : AE) : AG := fun v ρ S Q E => ao ρ S (fun o S1 => ai ρ S1 (fun i S2 => aPut o i v S2 fun S3 => Q ρ S3) E) E
theorem g_sub (ho : EA X W o to ao) (hi : EA X W i ti ai)
    (hx : ∀ v, assign (.Subscript o i pos) X.env v = (do
      let ov ← holding [v] (eval o X.env)
      let iv ← holding [v, ov] (eval i X.env)
      standAt pos
      holding [v, ov, iv] (setItem ov iv v)
      release [v, ov, iv] []) := by intro _; rfl) : GA X W (.Subscript o i pos) (gSub to ti rSetL) (agSub ao ai) := by
  refine ⟨pg_sub ho.pe hi.pe set_list hx, fun v d σ H F S R ρ Q E P T en wo dv q po => ho.re σ H F S R ρ _ E _ T en wo q fun x H1 F1 S1 d1 e1 T1 dx q1 => ?_⟩
  refine hi.re σ H1 F1 S1 R ρ _ E _ T1 (en.mono e1) (wo.mono e1) q1 fun y H2 F2 S2 d2 e2 T2 dy q2 => ?_
  exact put_ok T2 (dx.mono e2) dy (dv.mono (e1.trans e2)) q2 fun H' S' T3 q3 => po σ H' F2 S' ρ (e1.trans e2) T3 (en.mono (e1.trans e2)) q3
/-! ### slices -/
abbrev AO := En → Sto → (Option Int → Sto → Prop) → KX → Prop
structure OA (X : Cx) (W : WX) (e : Option Expr) (t : TO) (a : AO) : Prop where
  po : PO X e t
  ro : ∀ σ H F S R ρ Q E (P : Option Int → Hp → Prop), Sta X.kw F S R H → EnR X.kw F σ ρ → WOk X.kw F R σ W E → a ρ S Q E → (∀ v H' F' S', Same F F' → Sta X.kw F' S' R H' → Q v S' → P v H') → t σ H P
def aoN : AO := fun _ S Q _ => Q none S
def aoS (a : AE) : AO := fun ρ S Q E => a ρ S (onI fun i S1 => Q (some i) S1) E
def cutD (xs : List D) (lo hi : Option Int) : List D := (xs.drop (HT.sIx xs.length 0 lo)).take (HT.sIx xs.length xs.length hi - HT.sIx xs.length 0 lo)
def aSl (ae : AE) (al ah : AO) : AE := fun ρ S Q E => ae ρ S (fun d S1 => al ρ S1 (fun l S2 => ah ρ S2 (fun u S3 => ∃ ds, asL S3 d = some ds ∧ NewL (cutD ds l u) S3 Q) E) E) E
def aRev (ae : AE) : AE := fun ρ S Q E => ae ρ S (fun d S1 => ∃ ds, asL S1 d = some ds ∧ NewL ds.reverse S1 Q) E
theorem ea_revL {k : Nat} {p1 p2 p3 : Pos} (he : EA X W e te ae) : EA X W (.Subscript e (.Slice none none (some (.UnaryOp .USub (.Constant (.int 1) k p1) p2)) p3) pos) (tRevL X.K te) (aRev ae) := by
  refine ⟨pe_revL he.pe, fun σ H F S R ρ Q E P T en wo q po => he.re σ H F S R ρ _ E _ T en wo q fun v H1 F1 S1 d e1 T1 dv q1 => ?_⟩
  obtain ⟨ds, h1, h2⟩ := q1
  obtain ⟨a, xs, rfl, h3, h4, hz⟩ := asL_ok T1 dv h1
  exact ⟨a, xs, rfl, SqL.of h3, newL_ok T1 h4.reverse (by rw [List.length_reverse]; exact hz) h2 (po.mono e1)⟩

/-! ### built-in functions -/
def lenD (S : Sto) (d : D) : Option Nat := match d with
  | .lst l => some l.length
  | .tup l => some l.length
  | .scr l => some l.length
  | .str z => if z.length ≤ sizeLine then some z.length else none
  | .own a => match S a with | some (.lst l) => some l.length | _ => none
  | _ => none
def aLen : ON := fun ds S Q => ∃ d n, ds = [d] ∧ lenD S d = some n ∧ Q (.int n) S
theorem c_len : CallA X (.builtin "len") (fun xs H Q => ∃ x n, xs = [x] ∧ LenV X.K x H n ∧ Q (.int n) H) aLen := by
  refine ⟨call_len, ?_⟩
  rintro xs ds H F S R Q P T dvs ⟨d, n, rfl, hn, q⟩ po
  cases dvs with
  | cons h t =>
    cases t
    refine ⟨_, n, rfl, ?_, po _ H F S _ (Same.refl _) T (.int _) q⟩
    cases h with
    | lst h z l => cases hn; exact .inl ⟨_, SqL.of (T.le _ _ h), l.len.symm⟩
    | tup h z l => cases hn; exact .inr ⟨_, SqT.same T.le h, l.len.symm⟩
    | scr h z => cases hn; exact .inl ⟨_, T.le.seq h, by rw [List.length_map]⟩
    | str z =>
      have hn' : (if z.length ≤ sizeLine then some z.length else none) = some n := hn
      by_cases g : z.length ≤ sizeLine
      · rw [if_pos g] at hn'; cases hn'; exact ⟨g, rfl⟩
      · rw [if_neg g] at hn'; cases hn'
    | own a =>
      have hn' : (match S a with | some (.lst l) => some l.length | _ => none) = some n := hn
      split at hn'
      · rename_i l hS
        cases hn'
        obtain ⟨_, z, xs, h3, h4⟩ := T.own _ _ hS
        exact .inl ⟨xs, SqL.of h3, h4.len.symm⟩
      · cases hn'
    | _ => cases hn
/-- the items of a list, a tuple or the script, as data -/
def itD (S : Sto) (d : D) : Option (List D) := match d with
  | .scr l => some (l.map .int)
  | .tup l => some l
  | d => asL S d
theorem itD_ok {K : KW} {F H : Hp} {S R : Sto} {v : V} {d : D} {ds : List D} (T : Sta K F S R H) (h : Dv K F v d) (q : itD S d = some ds) : ∃ a xs, v = .ref a ∧ (SqL K.K H a xs ∨ SqT K.K H a xs) ∧ DvL K F xs ds ∧ ds.length ≤ sizeLine := by
  cases d with
  | scr l =>
    cases q
    cases h with
    | scr h z => exact ⟨_, _, rfl, .inl (T.le.seq h), DvL.ints l, by rw [List.length_map]; exact z⟩
  | tup l =>
    cases q
    cases h with
    | tup h z l => exact ⟨_, _, rfl, .inr (SqT.same T.le h), l, z⟩
  | _ =>
    obtain ⟨a, xs, h1, h2, h3, h4⟩ := asL_ok T h q
    exact ⟨a, xs, h1, .inl (SqL.of h2), h3, h4⟩
def aList : ON := fun ds S Q => ∃ d l, ds = [d] ∧ itD S d = some l ∧ NewL l S Q
theorem c_list : CallA X (.type "list") (fun xs H Q => ∃ p ys, xs = [.ref p] ∧ (SqL X.K H p ys ∨ SqT X.K H p ys) ∧ ∀ l, H l = none → Q (.ref l) (upd H l (.lst ys))) aList := by
  refine ⟨call_list_of, ?_⟩
  rintro xs ds H F S R Q P T dvs ⟨d, n, rfl, hn, q⟩ po
  cases dvs with
  | cons h t =>
    cases t
    obtain ⟨a, ys, rfl, h1, h2, h3⟩ := itD_ok T h hn
    exact ⟨a, ys, rfl, h1, newL_ok T h2 h3 q po⟩
/-- tuple(x) of a list -/
def aTupOf : ON := fun ds S Q => ∃ d l, ds = [d] ∧ itD S d = some l ∧ Q (.tup l) S
theorem c_tuple : CallA X (.type "tuple") (fun xs H Q => ∃ p ys, xs = [.ref p] ∧ ((SqL X.K H p ys ∧ ∀ l, H l = none → Q (.ref l) (upd H l (.tup ys))) ∨ (SqT X.K H p ys ∧ Q (.ref p) H))) aTupOf := by
  refine ⟨call_tuple_of, ?_⟩
  rintro xs ds H F S R Q P T dvs ⟨d, n, rfl, hn, q⟩ po
  cases dvs with
  | cons h t =>
    cases t
    cases d with
    | tup l =>
      cases hn
      cases h with
      | tup h z l => exact ⟨_, _, rfl, .inr ⟨SqT.same T.le h, po _ H F S _ (Same.refl _) T (.tup h z l) q⟩⟩
    | scr l =>
      cases hn
      cases h with
      | scr h z => exact ⟨_, _, rfl, .inl ⟨T.le.seq h, newT_ok T (DvL.ints l) (by rw [List.length_map]; exact z) q po⟩⟩
    | _ =>
      obtain ⟨b, zs, e, g2, g3, g4⟩ := asL_ok T h hn
      exact ⟨b, zs, by rw [e], .inl ⟨SqL.of g2, newT_ok T g3 g4 q po⟩⟩
/-- list(range(n)), list(range(a, b)) -/
def aLRg1 (aa : AE) : AE := fun ρ S Q E => aa ρ S (onI fun n S1 => RgOk 0 n ∧ NewL (rngD 0 n.toNat) S1 Q) E
def aLRg2 (aa ab : AE) : AE := fun ρ S Q E => aa ρ S (fun d S1 => ab ρ S1 (fun e S2 => onII (fun i j => RgOk i j ∧ NewL (rngD i (j - i).toNat) S2 Q) d e) E) E
theorem dvl_rg {K : KW} {F : Hp} {i j : Int} : DvL K F (rgV i j) (rngD i (j - i).toNat) := by
  unfold rgV rngD
  generalize (List.range (j - i).toNat) = l
  induction l with
  | nil => exact .nil
  | cons n r ih => exact .cons (.int _) ih
theorem rngD_length {i : Int} {n : Nat} : (rngD i n).length = n := by unfold rngD; simp
theorem ea_listRg1 {p1 p2 : Pos} (hc : X.calm = true) (hm : X.mg "list" = none) (hm2 : X.mg "range" = none) (ha : EA X W a ta aa) (hg : Gl X "list" := by rfl) (hg2 : Gl X "range" := by rfl)
    (na : starEach [a] X.env = (false, eval a X.env) :: starEach [] X.env := by rfl) (nb : starEach [.Call (.Name "range" p2) [a] [] p1] X.env = (false, eval (.Call (.Name "range" p2) [a] [] p1) X.env) :: starEach [] X.env := by rfl) :
    EA X W (.Call (.Name "list" p) [.Call (.Name "range" p2) [a] [] p1] [] pos) (tLstRg (tRg1 ta)) (aLRg1 aa) := by
  refine ⟨pe_listRg hc hg hm (prg_1 hg2 hm2 ha.pe na) nb, fun σ H F S R ρ Q E P T en wo q po => ha.re σ H F S R ρ _ E _ T en wo q fun v H1 F1 S1 d e1 T1 dv q1 => ?_⟩
  cases dv with
  | int n =>
    have e : (n - 0).toNat = n.toNat := by congr 1; omega
    refine ⟨n, rfl, q1.1, newL_ok T1 (by have := dvl_rg (K := X.kw) (F := F1) (i := 0) (j := n); rw [e] at this; exact this) ?_ q1.2 (po.mono e1)⟩
    rw [rngD_length, sizeLine_eq]
    have := q1.1.2.2.2.2
    omega
  | _ => exact (show False from q1).elim
def aAbs : ON := fun ds S Q => onL1 (fun i => Q (.int (if i < 0 then -i else i)) S) ds
theorem c_abs : CallA X (.builtin "abs") (fun xs H Q => ∃ i, xs = [.int i] ∧ Q (.int (if i < 0 then -i else i)) H) aAbs := by
  refine ⟨call_abs, fun xs ds H F S R Q P T dvs q po => ?_⟩
  unfold aAbs onL1 at q
  split at q
  · cases dvs with
    | cons h t => cases t; cases h; exact ⟨_, rfl, po _ H F S _ (Same.refl _) T (.int _) q⟩
  · exact (show False from q).elim
def aI2N (C : Int → Int → Prop) (g : Int → Int → D) : ON := fun ds S Q => onL2 (fun i j => C i j ∧ Q (g i j) S) ds
theorem i2N_ok {K : KW} {F : Hp} {xs : List V} {ds : List D} {S : Sto} {C : Int → Int → Prop} {g : Int → Int → D} {Q : KD} (dvs : DvL K F xs ds) (q : aI2N C g ds S Q) : ∃ i j, xs = [.int i, .int j] ∧ C i j ∧ Q (g i j) S := by
  unfold aI2N onL2 at q
  split at q
  · cases dvs with
    | cons h t => cases t with
      | cons h2 t2 => cases t2; cases h; cases h2; exact ⟨_, _, rfl, q⟩
  · exact (show False from q).elim
def aMax : ON := aI2N (fun _ _ => True) fun i j => .int (if j > i then j else i)
def aMin : ON := aI2N (fun _ _ => True) fun i j => .int (if j < i then j else i)
theorem c_max2 (hc : X.calm = true) : CallA X (.builtin "max") (fun xs H Q => ∃ i j, xs = [.int i, .int j] ∧ Q (.int (if j > i then j else i)) H) aMax := by
  refine ⟨call_max2 hc, fun xs ds H F S R Q P T dvs q po => ?_⟩
  obtain ⟨i, j, rfl, _, q⟩ := i2N_ok dvs q
  exact ⟨i, j, rfl, po _ H F S _ (Same.refl _) T (.int _) q⟩
theorem c_min2 (hc : X.calm = true) : CallA X (.builtin "min") (fun xs H Q => ∃ i j, xs = [.int i, .int j] ∧ Q (.int (if j < i then j else i)) H) aMin := by
  refine ⟨call_min2 hc, fun xs ds H F S R Q P T dvs q po => ?_⟩
  obtain ⟨i, j, rfl, _, q⟩ := i2N_ok dvs q
  exact ⟨i, j, rfl, po _ H F S _ (Same.refl _) T (.int _) q⟩
def aDm : ON := aI2N CDivP fun i j => .tup [.int (i / j), .int (i % j)]
theorem c_divmod : CallA X (.builtin "divmod") (fun xs H Q => ∃ i j, xs = [.int i, .int j] ∧ CDivP i j ∧ ∀ p, H p = none → Q (.ref p) (upd H p (.tup [.int (i / j), .int (i % j)]))) aDm := by
  refine ⟨call_divmodW, fun xs ds H F S R Q P T dvs q po => ?_⟩
  obtain ⟨i, j, rfl, hc, q⟩ := i2N_ok dvs q
  exact ⟨i, j, rfl, hc, newT_ok T (.cons (.int _) (.cons (.int _) .nil)) (by rw [sizeLine_eq]; simp) q po⟩
def blsOf : List D → Option (List Bool)
  | [] => some []
  | .bl b :: r => (blsOf r).map (b :: ·)
  | _ :: _ => none
theorem blsOf_map : ∀ bs : List Bool, blsOf (bs.map D.bl) = some bs
  | [] => rfl
  | b :: r => by show (blsOf (r.map D.bl)).map (b :: ·) = _; rw [blsOf_map r]; rfl
theorem blsOf_ok : ∀ {ds : List D} {bs : List Bool}, blsOf ds = some bs → ds = bs.map D.bl
  | [], _, h => by cases h; rfl
  | .bl b :: r, bs, h => by
    have h' : (blsOf r).map (b :: ·) = some bs := h
    obtain ⟨q, e1, e2⟩ := Option.map_eq_some_iff.mp h'
    subst e2
    rw [blsOf_ok e1]
    rfl
  | .non :: _, _, h => by cases h
  | .int _ :: _, _, h => by cases h
  | .str _ :: _, _, h => by cases h
  | .ty _ :: _, _, h => by cases h
  | .lst _ :: _, _, h => by cases h
  | .tup _ :: _, _, h => by cases h
  | .set _ :: _, _, h => by cases h
  | .own _ :: _, _, h => by cases h
  | .scr _ :: _, _, h => by cases h
def aAll : ON := fun ds S Q => ∃ d l bs, ds = [d] ∧ asL S d = some l ∧ blsOf l = some bs ∧ Q (.bl (bs.all id)) S
def aAny : ON := fun ds S Q => ∃ d l bs, ds = [d] ∧ asL S d = some l ∧ blsOf l = some bs ∧ Q (.bl (bs.any id)) S
theorem c_all (hc : X.calm = true) : CallA X (.builtin "all") (rAll X.K) aAll := by
  refine ⟨cr_all hc, ?_⟩
  rintro xs ds H F S R Q P T dvs ⟨d, l, bs, rfl, h1, h2, q⟩ po
  cases dvs with
  | cons h t =>
    cases t
    obtain ⟨a, ys, rfl, h3, h4, _⟩ := asL_ok T h h1
    rw [blsOf_ok h2] at h4
    exact ⟨a, bs, rfl, by rw [← h4.toBls]; exact SqL.of h3, po _ H F S _ (Same.refl _) T (.bl _) q⟩
theorem c_any (hc : X.calm = true) : CallA X (.builtin "any") (rAny X.K) aAny := by
  refine ⟨cr_any hc, ?_⟩
  rintro xs ds H F S R Q P T dvs ⟨d, l, bs, rfl, h1, h2, q⟩ po
  cases dvs with
  | cons h t =>
    cases t
    obtain ⟨a, ys, rfl, h3, h4, _⟩ := asL_ok T h h1
    rw [blsOf_ok h2] at h4
    exact ⟨a, bs, rfl, by rw [← h4.toBls]; exact SqL.of h3, po _ H F S _ (Same.refl _) T (.bl _) q⟩
end
end A

/-! ## methods of lists, isinstance, repr, len of an instance, C.m(..) -/
namespace A
open PySem PySem.Spec L2 PyProof.Rows ClX

section
variable {X : Cx} {W : WX} {e o : Expr} {es : List Expr} {to : TE} {ao : AE} {t : TA} {ar : AA} {apos pos p : Pos}
/-! ### methods of lists -/
abbrev OM := D → List D → Sto → KD → Prop
structure MthA (X : Cx) (id : String) (r : V → List V → Hp → VK → Prop) (a : OM) : Prop where
  m : MtR X id r
  k : ∀ x xs d ds H F S R Q P, Sta X.kw F S R H → Dv X.kw F x d → DvL X.kw F xs ds → a d ds S Q → Post X.kw F R Q P → r x xs H P
def aBM (a : OM) (ao : AE) (ar : AA) : AE := fun ρ S Q E => ao ρ S (fun d S1 => (∃ l, asL S1 d = some l) ∧ ar ρ S1 (fun ds S2 => a d ds S2 Q) E) E
theorem tyL_ok {F H : Hp} {S R : Sto} {x : V} {d : D} (T : Sta X.kw F S R H) (dx : Dv X.kw F x d) (h : ∃ l, asL S d = some l) : tyV X.K "list" x H := by
  obtain ⟨l, h⟩ := h
  obtain ⟨a, xs, rfl, h1, _, _⟩ := asL_ok T dx h
  exact .inl ⟨rfl, xs, SqL.of h1⟩
theorem ea_bm {id : String} {name : Str} {r : V → List V → Hp → VK → Prop} {a : OM} (hm : MthA X id r a) (slot : Slot "list" name id) (hty : typeOf (.builtin id) = pure (.type "method_descriptor")) (ho : EA X W o to ao) (ha : ArA X W (e :: es) t ar)
    (hbase : attributeBase o name X.env (eval o X.env) = eval o X.env := by rfl)
    (hfew : ((backTo pos (starEach (e :: es) X.env)).all (fun x => !x.1) && (backToKw pos (keywordEach [] X.env)).all (fun x => x.1.isSome)
      && decide ((e :: es).length + ([] : List Keyword).length + (if ([] : List Keyword).isEmpty then 0 else 1) < 30)) = true := by rfl)
    (hline : (apos.endLine == pos.line) = true := by rfl) (hs : starEach (e :: es) X.env = (false, eval e X.env) :: starEach es X.env := by rfl) (hplain : (backTo pos (starEach es X.env)).any (·.1) = false := by rfl) :
    EA X W (.Call (.Attribute o name apos) (e :: es) [] pos) (tBM X.K "list" r to t) (aBM a ao ar) := by
  refine ⟨pe_bm PySem.F.plainAttrs_list slot hty hm.m ho.pe ha.pa hbase hfew hline hs hplain, fun σ H F S R ρ Q E P T en wo q po => ho.re σ H F S R ρ _ E _ T en wo q fun v H1 F1 S1 d e1 T1 dv q1 => ?_⟩
  refine ⟨tyL_ok T1 dv q1.1, ha.ra σ H1 F1 S1 R ρ _ E _ T1 (en.mono e1) (wo.mono e1) q1.2 fun vs H2 F2 S2 ds e2 T2 dvs q2 => ?_⟩
  exact hm.k _ _ _ _ H2 F2 S2 R Q P T2 (dv.mono e2) dvs q2 (po.mono (e1.trans e2))
/-- one's own list -/
theorem own_ok {K : KW} {F H : Hp} {S R : Sto} {x : V} {a : Addr} {l : List D} (T : Sta K F S R H) (dx : Dv K F x (.own a)) (h : S a = some (.lst l)) : ∃ xs, x = .ref a ∧ H a = some (.lst xs) ∧ DvL K F xs l ∧ l.length ≤ sizeLine := by
  cases dx
  obtain ⟨_, z, xs, h1, h2⟩ := T.own _ _ h
  exact ⟨xs, rfl, h1, h2, z⟩
def aApp : OM := fun d ds S Q => ∃ a l x, d = .own a ∧ S a = some (.lst l) ∧ ds = [x] ∧ l.length < sizeLine ∧ Q .non (put S a (.lst (l ++ [x])))
theorem m_append : MthA X "list.append" rAppend aApp := by
  refine ⟨mt_append, ?_⟩
  rintro x xs d ds H F S R Q P T dx dvs ⟨a, l, y, rfl, h1, rfl, hz, q⟩ po
  obtain ⟨ys, rfl, h2, h3, _⟩ := own_ok T dx h1
  cases dvs with
  | cons h t =>
    cases t
    refine ⟨a, ys, _, rfl, rfl, h2, by rw [h3.len]; exact hz, po .non _ F _ .non (Same.refl _) (T.write (c' := .lst (l ++ [y])) h1 ⟨by simp; omega, _, upd_same, h3.append (.cons h .nil)⟩) .non q⟩
def aPopAt : OM := fun d ds S Q => ∃ a l i k y, d = .own a ∧ S a = some (.lst l) ∧ ds = [.int i] ∧ ixN l.length i = some k ∧ l[k]? = some y ∧ Q y (put S a (.lst (l.eraseIdx k)))
theorem m_popAt : MthA X "list.pop" rPopAt aPopAt := by
  refine ⟨mt_popAt, ?_⟩
  rintro x xs d ds H F S R Q P T dx dvs ⟨a, l, i, k, y, rfl, h1, rfl, hk, hy, q⟩ po
  obtain ⟨ys, rfl, h2, h3, hz⟩ := own_ok T dx h1
  cases dvs with
  | cons h t =>
    cases t
    cases h
    obtain ⟨v, h4, h5⟩ := h3.getD hy
    obtain ⟨g1, g2, g3, g4⟩ := ixN_seq hk
    have hs : sizeLine = 16777216 := sizeLine_eq
    exact ⟨a, ys, i, k, v, rfl, rfl, h2, by omega, by omega, by rw [h3.len]; exact g1, h4, po v _ F _ y (Same.refl _) (T.write (c' := .lst (l.eraseIdx k)) h1 ⟨by have := len_erase l k; omega, _, upd_same, h3.eraseIdx k⟩) h5 q⟩
def aPop : OM := fun d ds S Q => ∃ a l y, d = .own a ∧ S a = some (.lst l) ∧ ds = [] ∧ l[l.length - 1]? = some y ∧ Q y (put S a (.lst l.dropLast))
theorem DvL.dropLast {K : KW} {F : Hp} : ∀ {vs : List V} {ds : List D}, DvL K F vs ds → DvL K F vs.dropLast ds.dropLast := by
  intro vs ds h
  rw [List.dropLast_eq_take, List.dropLast_eq_take, h.len]
  exact h.take _
def aClear : OM := fun d ds S Q => ∃ a l, d = .own a ∧ S a = some (.lst l) ∧ ds = [] ∧ Q .non (put S a (.lst []))
def aRevM : OM := fun d ds S Q => ∃ a l, d = .own a ∧ S a = some (.lst l) ∧ ds = [] ∧ Q .non (put S a (.lst l.reverse))
def aExt : OM := fun d ds S Q => ∃ a l e m, d = .own a ∧ S a = some (.lst l) ∧ ds = [e] ∧ asL S e = some m ∧ l.length + m.length ≤ sizeLine ∧ Q .non (put S a (.lst (l ++ m)))
/-! ### isinstance -/
def clsD : D → Option Value
  | .ty n => some (.type n)
  | .own C => some (.ref C)
  | _ => none
theorem clsD_ok {K : KW} {F : Hp} {v : V} {d : D} {u : Value} (h : Dv K F v d) (e : clsD d = some u) : ClsV v u := by
  cases h with
  | ty n => cases e; exact .ty n
  | own a => cases e; exact .own a
  | _ => cases e
/-- what isinstance asks of an instance's class -/
structure IsiOk (K : PySem.W.Frag) (C : Addr) : Prop where
  cl : Cls K C
  ca : PySem.W.findIn K (.ref C) "__class__" = some (some (.builtin "object.__class__"))
  cn : PySem.W.specialIn K (.builtin "object.__class__") "__get__" = some (some (.builtin "getset_descriptor.__get__"))
  ct : PySem.W.takesIn K (.builtin "object.__class__") = some true
  cm : PySem.W.mroIn K C (.type "object") = some true
def tyD (S : Sto) : D → Option Value
  | .non => some (.type "NoneType")
  | .bl _ => some (.type "bool")
  | .int _ => some (.type "int")
  | .str _ => some (.type "str")
  | .lst _ => some (.type "list")
  | .tup _ => some (.type "tuple")
  | .own a => match S a with
    | some (.lst _) => some (.type "list")
    | some .pot => some (.type "list")
    | some (.dct _) => some (.type "dict")
    | some (.ins C _) => some (.ref C)
    | _ => none
  | _ => none
theorem sqT_ty {K : KW} {H : Hp} {a : Addr} {xs : List V} (h : SqT K.K H a xs) : TyX K.K H (.ref a) (.type "tuple") := by
  rcases h with (h | ⟨o, h⟩) | ⟨o, its, n, h1, h2, _⟩
  · exact .base (.tup h)
  · exact .fTuple h
  · exact .kTuple h1 h2
theorem tyD_ok {K : KW} {F H : Hp} {S R : Sto} {v : V} {d : D} {t : Value} (T : Sta K F S R H) (h : Dv K F v d) (e : tyD S d = some t) (ok : ∀ C, t = .ref C → IsiOk K.K C) : TyX K.K H v t := by
  cases h with
  | non => cases e; exact .base .non
  | bl b => cases e; exact .base (.bl b)
  | int b => cases e; exact .base (.int b)
  | str b => cases e; exact .base (.str b)
  | lst h _ _ => cases e; exact .base (.lst (T.le _ _ h))
  | tup h _ _ => cases e; exact sqT_ty (SqT.same T.le h)
  | own a =>
    have e' : (match S a with
      | some (.lst _) => some (Value.type "list")
      | some .pot => some (Value.type "list")
      | some (.dct _) => some (Value.type "dict")
      | some (.ins C _) => some (Value.ref C)
      | _ => none) = some t := e
    split at e'
    · rename_i l hS
      cases e'
      obtain ⟨_, _, xs, h1, _⟩ := T.own _ _ hS
      exact .base (.lst h1)
    · rename_i hS
      cases e'
      obtain ⟨_, x, y, h1, _⟩ := T.own _ _ hS
      exact .base (.lst h1)
    · rename_i m hS
      cases e'
      obtain ⟨_, _, l, h1, _⟩ := T.own _ _ hS
      exact .base (.dK h1)
    · rename_i C fs hS
      cases e'
      obtain ⟨_, dx, gs, h1, _⟩ := T.own _ _ hS
      have k := ok C rfl
      exact .base (.ins h1 k.cl k.ca k.cn k.ct k.cm)
    · cases e'
  | _ => cases e
/-- isinstance(x, c) -/
def aIsi (K : PySem.W.Frag) (ok : Addr → Prop) : ON := fun ds S Q => ∃ d c t u b, ds = [d, c] ∧ clsD c = some u ∧ tyD S d = some t ∧ (∀ C, t = .ref C → ok C) ∧ PySem.W.kitOne K t u = some b ∧ Q (.bl b) S
theorem c_isi {ok : Addr → Prop} (hok : ∀ C, ok C → IsiOk X.K C) : CallA X (.builtin "isinstance") (rIsi X.K) (aIsi X.K ok) := by
  refine ⟨call_isi, ?_⟩
  rintro xs ds H F S R Q P T dvs ⟨d, c, t, u, b, rfl, h1, h2, h3, h4, q⟩ po
  cases dvs with
  | cons a1 t1 =>
    cases t1 with
    | cons a2 t2 =>
      cases t2
      exact ⟨_, _, t, u, b, rfl, clsD_ok a2 h1, tyD_ok T a1 h2 (fun C e => hok C (h3 C e)), h4, po _ H F S _ (Same.refl _) T (.bl b) q⟩

/-! ### repr -/
def rRepr (K : PySem.W.Frag) : List V → Hp → VK → Prop := fun xs H Q => ∃ (a : Addr) (d : PyData), xs = [.ref a] ∧ Dp K H (.ref a) d ∧ d.showable = true ∧ d.hasDict = false ∧ d.depth ≤ 60 ∧ d.shown.length ≤ sizeLine ∧ Q (.str d.shown) H
theorem call_repr (hr : ∃ k, RoomG k X.A) : CallR X (.builtin "repr") (rRepr X.K) := by
  intro pins s σ H xs us Q I r h
  obtain ⟨k, hr⟩ := hr
  obtain ⟨a, d, rfl, hd, h1, h2, h3, h4, q⟩ := h
  obtain ⟨u, rfl, ru⟩ := vals1 r
  obtain rfl : u = Value.ref a := ru
  obtain ⟨as, hR⟩ := Dp.reads I d (V.ref a) (Value.ref a) hd rfl
  refine repr_of_reads' hR h1 (fun z => by rw [h2] at z; cases z) hr.gd (by have := hr.room.un; omega) (fun b o e => e) (fun h' u tk hk => ?_) h4
  exact ⟨.str d.shown, H, I.kept hk, ⟨_, rfl⟩, q⟩
mutual
/-- all numbers in it are below 10 ** 12 -/
def sml : PyData → Bool
  | .none | .bool _ | .str _ => true
  | .int i => decide (i.natAbs < 10 ^ 12)
  | .list l => smlAll l
  | .tuple l => smlAll l
  | .dict _ => false
def smlAll : List PyData → Bool
  | [] => true
  | x :: r => sml x && smlAll r
end
mutual
theorem sml_show : ∀ p : PyData, sml p = true → p.showable = true ∧ p.intsShort 13 = true
  | .none, _ => ⟨rfl, rfl⟩
  | .bool _, _ => ⟨rfl, rfl⟩
  | .str _, _ => ⟨rfl, rfl⟩
  | .int i, h => by
    have h1 : i.natAbs < 10 ^ 12 := by simpa only [sml, decide_eq_true_eq] using h
    refine ⟨?_, by simp only [PyData.intsShort, decide_eq_true_eq]; exact PyData.shown_int_le h1⟩
    simp only [PyData.showable, decide_eq_true_eq]
    have h2 : i.natAbs < 2 ^ 1920 := Nat.lt_of_lt_of_le h1 (by decide +kernel)
    by_cases z : i.natAbs = 0
    · rw [z]; decide
    · exact (Nat.log2_lt z).mpr h2
  | .list l, h => by
    have h1 : smlAll l = true := by simpa only [sml] using h
    simp only [PyData.showable, PyData.intsShort]
    exact smlAll_show l h1
  | .tuple l, h => by
    have h1 : smlAll l = true := by simpa only [sml] using h
    simp only [PyData.showable, PyData.intsShort]
    exact smlAll_show l h1
  | .dict _, h => by simp only [sml] at h; cases h
theorem smlAll_show : ∀ l : List PyData, smlAll l = true → PyData.showableAll l = true ∧ PyData.intsShortAll 13 l = true
  | [], _ => ⟨rfl, rfl⟩
  | x :: r, h => by
    have h1 : sml x = true ∧ smlAll r = true := by simpa only [smlAll, Bool.and_eq_true] using h
    obtain ⟨a1, a2⟩ := sml_show x h1.1
    obtain ⟨b1, b2⟩ := smlAll_show r h1.2
    exact ⟨by simp only [PyData.showableAll, a1, b1, Bool.and_self], by simp only [PyData.intsShortAll, a2, b2, Bool.and_self]⟩
end
def aRepr : ON := fun ds S Q => ∃ d n p, ds = [d] ∧ n ≤ 60 ∧ rd S n d = some p ∧ ((∃ l, p = .list l) ∨ ∃ l, p = .tuple l) ∧ sml p = true ∧ p.weight ≤ 2 ^ 20 ∧ Q (.str p.shown) S
theorem c_repr (hr : ∃ k, RoomG k X.A) : CallA X (.builtin "repr") (rRepr X.K) aRepr := by
  refine ⟨call_repr hr, ?_⟩
  rintro xs ds H F S R Q P T dvs ⟨d, n, p, rfl, hn, h1, h0, g1, g2, q⟩ po
  obtain ⟨h2, g3⟩ := sml_show p g1
  obtain ⟨g4, g5⟩ := rd_lay n d p h1
  have h3 : p.hasDict = false := PyData.hasDict_of_canLay p g4
  have h4 : p.depth ≤ 60 := by omega
  have h5 : p.shown.length ≤ sizeLine := PyData.shown_fits (B := 13) (by decide) (by decide) (PyData.leavesShort_of_canLay0 13 p g4 g3) g2
  cases dvs with
  | cons h t =>
    cases t
    have hd := rd_dp T n d _ p h h1
    have fin := po (.str p.shown) H F S _ (Same.refl _) T (.str _) q
    rcases h0 with ⟨l, rfl⟩ | ⟨l, rfl⟩
    · cases hd with
      | lst a b => exact ⟨_, _, rfl, .lst a b, h2, h3, h4, h5, fin⟩
    · cases hd with
      | tup a b => exact ⟨_, _, rfl, .tup a b, h2, h3, h4, h5, fin⟩
end

/-! ### a def run deeper -/
theorem RoomG.in1 {k : Nat} {A : Around} (r : RoomG (k + 1) A) : RoomG k A.in1 := ⟨Room.in1 r.room, r.gd⟩
section
variable {X : Cx} {W : WX} {k : Nat} {f : Addr} {fd : FuncData} {ps : List Str} {sp : Sp}
end

/-! ### len(x), x an instance -/
structure LenF (P : Program) (w : World) (K : PySem.W.Frag) (mg : Str → Option Value) (base : Heap) (C : Addr) (k : Nat) (sp : SpA) : Prop where
  ex : ∃ f fd ps, PySem.W.findIn K (.ref C) "__len__" = some (some (.ref f)) ∧ PySem.W.isFn K (.ref f) = true ∧ Binds K fd ps [] ∧ FnA P w K mg base k f fd ps sp
section
variable {X : Cx} {W : WX} {k : Nat} {sp : SpA}
end

/-! ### C.m(e, ..), C a class of the module: its def, called with all that is written -/
structure CMF (P : Program) (w : World) (K : PySem.W.Frag) (mg : Str → Option Value) (base : Heap) (x m : Str) (k : Nat) (ps : List Str) (dvs : List D) (sp : SpA) : Prop where
  ex : ∃ C mc f fd vs us, mg x = some (.ref C) ∧ CRead K C mc ∧ PySem.W.findCls K (.ref C) mc m = some (.val (.ref f)) ∧ PySem.W.keepIn K (.ref f) = true ∧ Vals vs us ∧ (∀ F, DvL ⟨K, w⟩ F vs dvs) ∧ Binds K fd ps us ∧ FnA P w K mg base k f fd ps sp
section
variable {X : Cx} {W : WX} {k : Nat} {ps : List Str} {sp : SpA} {x m : Str} {p1 p2 pos : Pos} {e : Expr} {es : List Expr} {t : TA} {ar : AA}
def tClD (K : KW) (W : WX) (sp : SpA) (dvs : List D) (t : TA) : TE := fun σ H Q => t σ H fun vs H1 => ∃ ds F S R Q' E, DvL K F vs ds ∧ Sta K F S R H1 ∧ sp (ds ++ dvs) S Q' E ∧ Post K F R Q' Q ∧ ∀ cls dd H' F' S' x, Same F F' → Sta K F' S' R H' → XR K F' H' cls dd x → E x S' → W cls dd σ H'
theorem ea_clsm {dvs : List D} {pl : Sem Bool} (G : CMF X.prog X.w X.K X.mg X.base x m k ps dvs sp) (hr : RoomG k X.A) (tk : Takes X W) (h : ArA X W (e :: es) t ar) (hg : Gl X x := by rfl) (hdb : (x == ("__debug__" : Str)) = false := by decide)
    (hc : eval (.Call (.Attribute (.Name x p1) m p2) (e :: es) [] pos) X.env = (do
      let ov ← eval (.Name x p1) X.env
      standAt p2.atName
      let (f, first) ← holding [ov] (getMethod ov m pl)
      callWith pos f first (backTo pos (starEach (e :: es) X.env)) (backToKw pos (keywordEach [] X.env))) := by rfl)
    (he : starEach (e :: es) X.env = (false, eval e X.env) :: starEach es X.env := by rfl) (hpl : (backTo pos (starEach es X.env)).any (·.1) = false := by rfl) :
    EA X W (.Call (.Attribute (.Name x p1) m p2) (e :: es) [] pos) (tClD X.kw W sp dvs t) (aClD sp dvs ar) := by
  obtain ⟨C, mc, f, fd, ws, us2, hm, hrd, hf, kp, hv, hdv, hb, F⟩ := G.ex
  refine ⟨⟨fun pins s σ H Q I q => ?_⟩, fun σ H F S R ρ Q E P T en wo q po => h.ra σ H F S R ρ _ E _ T en wo q fun vs H1 F1 S1 ds e1 T1 dvs q1 =>
    ⟨ds, F1, S1, R, Ret Q, E, dvs, T1, q1, ret_post (po.mono e1), wo.mono e1⟩⟩
  refine PySem.W.methodCall_KW (pl := pl) (ld_glob I hg hm ?_ hdb) hc
  refine PySem.W.method_cls I.kIn hrd.ga (getcval_ok (v := .ref f) I hrd ⟨hf, rfl⟩ fun s2 I2 => ?_)
  refine PySem.W.callWith_K (first := []) (h₀ := X.base) I.ok.mod.kin kp (thn (h.pa.run pos pins s2 σ H _ I2 q) fun us s1 ⟨vs, H1, I1, r, ds, F0, S0, R0, Q0, E0, d0, T0, q0, p0, x0⟩ => ⟨I1.kIn, ?_⟩) he hpl
  have q1 : csp X.kw sp (vs ++ ws) H1 Q (WE W σ) := ⟨ds ++ dvs, F0, S0, R0, Q0, E0, d0.append (hdv F0), T0, q0, p0, x0⟩
  have r2 := r.append hv
  exact run_g F.g hr tk I1 (hb s1 us I1.kIn (by rw [← r2.length]; exact F.g.len _ _ _ _ q1)) r2 q1
end

/-! ### a list of two numbers becomes a pot -/
theorem gh_pot {p : Addr} {x y : Int} {S : Sto} (e : S p = some (.lst [.int x, .int y])) (ok : PotOk x y) : Gh (.own p) S (.own p) (put S p .pot) := fun K F R H v T dv => by
  obtain ⟨hF, z, xs, hx, hxs⟩ := T.own p _ e
  cases hxs with
  | cons h1 t1 =>
    cases t1 with
    | cons h2 t2 =>
      cases t2
      cases h1
      cases h2
      have T2 := T.write (a := p) (o := .lst [V.int x, V.int y]) (c' := .pot) e ⟨x, y, upd_same, ok⟩
      have e2 : upd H p (.lst [V.int x, V.int y]) = H := by
        funext b
        by_cases q : b = p
        · subst q; rw [upd_same, hx]
        · rw [upd_ne q]
      rw [e2] at T2
      exact ⟨F, Same.refl _, T2, dv⟩
end A

/-! ## what the head tells: any checks of the written part -/
namespace A
open PySem PySem.Spec L2 PyProof.Rows He

/-! ### the Hook -/
abbrev Chk := PySem.W.Frag → Bool
def obX (fc : List Chk) (fn : List DefD) (K : PySem.W.Frag) : AlD := ((fc.all fun f => f K) && fn.all fun d => d.ok K, fn.map fun d => fnW K d.at_)
def SaysX (fc : List Chk) (fn : List DefD) (K : PySem.W.Frag) : Prop := obX fc fn K = valD fn
section
variable {fc : List Chk} {fn : List DefD} {K : PySem.W.Frag}
theorem SaysX.ck (c : SaysX fc fn K) (i : Nat) {f : Chk} (h : fc[i]? = some f := by rfl) : f K = true := by
  have c1 : ((fc.all fun f => f K) && fn.all fun d => d.ok K) = true := congrArg (fun z : AlD => z.1) c
  exact List.all_eq_true.mp (Bool.and_eq_true_iff.mp c1).1 f (List.mem_of_getElem? h)
theorem SaysX.df (c : SaysX fc fn K) (i : Nat) {d : DefD} (h : fn[i]? = some d := by rfl) : ∃ fd, FunD K d.name d.qual d.params d.body d.scope (d.dvs K) (d.kws K) (fAd K d.at_) fd := by
  have c1 : ((fc.all fun f => f K) && fn.all fun d => d.ok K) = true := congrArg (fun z : AlD => z.1) c
  have e : fn.map (fun d => fnW K d.at_) = fn.map DefD.val := congrArg (fun z : AlD => z.2) c
  have e2 : (fn.map fun d => fnW K d.at_)[i]? = (fn.map DefD.val)[i]? := by rw [e]
  rw [List.getElem?_map, List.getElem?_map, h] at e2
  exact DefD.funD (Option.some.inj e2) (List.all_eq_true.mp (Bool.and_eq_true_iff.mp c1).2 d (List.mem_of_getElem? h))
end
/-! ### checks -/
def kGlo (x : Str) : Chk := fun K => (Fa.glo x).ok K
def kFree (x : Str) : Chk := fun K => (Fa.free x).ok K
def kInt (x : Str) (i : Int) : Chk := fun K => (Fa.int x i).ok K
def kCls (x : Str) : Chk := fun K => (Fa.cls x).ok K
def kNo (x f : Str) : Chk := fun K => (Fa.noat x f).ok K
abbrev DAt := Str × Option Str
def kMeth (x m : Str) (p : DAt) : Chk := fun K => eqO (PySem.W.findIn K (.ref (ga K x)) m) (some (some (.ref (fAd K p)))) && (PySem.W.isFn K (.ref (fAd K p)) && PySem.W.keepIn K (.ref (fAd K p)))
def kMk (x : Str) (p : DAt) : Chk := fun K => PySem.W.makesIn K (ga K x) && (eqO (PySem.W.findIn K (.ref (ga K x)) "__init__") (some (some (.ref (fAd K p)))) && (PySem.W.isFn K (.ref (fAd K p)) && PySem.W.keepIn K (.ref (ga K x))))
def kIsi (x : Str) : Chk := fun K => (Fa.cls x).ok K && (eqO (PySem.W.findIn K (.ref (ga K x)) "__class__") (some (some (.builtin "object.__class__"))) && (eqO (PySem.W.specialIn K (.builtin "object.__class__") "__get__") (some (some (.builtin "getset_descriptor.__get__"))) &&
  (decide (PySem.W.takesIn K (.builtin "object.__class__") = some true) && decide (PySem.W.mroIn K (ga K x) (.type "object") = some true))))
def valOf (r : Option PySem.W.CFound) : Option Value := match r with | some (.val v) => some v | _ => none
def kClm (x m : Str) (p : DAt) : Chk := fun K => PySem.W.readsIn K (ga K x) (.type "type") && (eqO (PySem.W.specialIn K (.ref (ga K x)) "__getattribute__") (some (some (.builtin "type.__getattribute__"))) &&
  decide (valOf (PySem.W.findCls K (.ref (ga K x)) (.type "type") m) = some (.ref (fAd K p))))
section
variable {K : PySem.W.Frag} {h : Heap} {mg : Str → Option Value}
theorem mk_ok {x : Str} {p : DAt} (c : kMk x p K = true) : Mk K (ga K x) (fAd K p) := by
  obtain ⟨c1, c⟩ := ba c
  obtain ⟨c2, c⟩ := ba c
  obtain ⟨c3, c4⟩ := ba c
  exact ⟨c1, eqO_ok c2, c3, c4⟩
theorem mt_ok {x m : Str} {p : DAt} (c : kMeth x m p K = true) : Meth K (ga K x) m (fAd K p) := by
  obtain ⟨c1, c⟩ := ba c
  obtain ⟨c2, c3⟩ := ba c
  exact ⟨eqO_ok c1, c2, c3⟩
theorem isi_ok {x : Str} (c : kIsi x K = true) : IsiOk K (ga K x) := by
  obtain ⟨c1, c⟩ := ba c
  obtain ⟨c2, c⟩ := ba c
  obtain ⟨c3, c⟩ := ba c
  obtain ⟨c4, c5⟩ := ba c
  exact ⟨cls_ok c1, eqO_ok c2, eqO_ok c3, of_decide_eq_true c4, of_decide_eq_true c5⟩
theorem fd_ok {x f : Str} (c1 : kCls x K = true) (c2 : kNo x f K = true) : FdOk K (ga K x) f := ⟨cls_ok c1, noat_ok c2⟩
theorem clm_ok {x m : Str} {p : DAt} (c : kClm x m p K = true) : ClX.CRead K (ga K x) (.type "type") ∧ PySem.W.findCls K (.ref (ga K x)) (.type "type") m = some (.val (.ref (fAd K p))) := by
  obtain ⟨c1, c⟩ := ba c
  obtain ⟨c2, c3⟩ := ba c
  refine ⟨⟨c1, eqO_ok c2⟩, ?_⟩
  have e : valOf (PySem.W.findCls K (.ref (ga K x)) (.type "type") m) = some (.ref (fAd K p)) := of_decide_eq_true c3
  unfold valOf at e
  split at e
  · rename_i v ev
    cases e
    exact ev
  · cases e
end
/-! ### a built-in type as a value -/
section
variable {X : Cx} {W : WX} {pos : Pos}
theorem ea_bty {x : Str} {n : String} (hm : X.mg x = none) (hv : bootBuiltins x = some (.type n) := by decide +kernel) (hg : Gl X x := by rfl) (hn : x ≠ "__name__" := by decide) (hd : (x == ("__debug__" : Str)) = false := by decide) :
    EA X W (.Name x pos) (tC (.ty n)) (aC (.ty n)) := ⟨pe_bltn hg hm hv rfl hn hd, re_c fun _ => .ty n⟩
end
end A

/-! ## small rules; what is promised of methods, classes -/
namespace A
open PySem PySem.Spec L2 PyProof.Rows
section
variable {X : Cx}
abbrev aIAdd : O2 := aI20 fun i j => .int (i + j)
theorem ip_add : IpA X .Add (rI0 fun i j => .int (i + j)) aIAdd := ⟨iop_add, k_i20 fun _ _ _ => .int _⟩
theorem ip_xor : IpA X .BitXor (rI0 fun i j => .int (Builtin.bitXor i j)) aXor := ⟨iop_xor, k_i20 fun _ _ _ => .int _⟩
end
theorem wofAny {E : XK} : ∀ {K : KW} {F : Hp} {R : Sto} {σ σ' : St} {E' : KX}, WOk K F R σ (wOf E) E' → WOk K F R σ' (wOf E) E' := fun h cls dd H' F' S' x e T xr q => h cls dd H' F' S' x e T xr q
theorem noWAny : ∀ {K : KW} {F : Hp} {R : Sto} {σ σ' : St} {E' : KX}, WOk K F R σ W0 E' → WOk K F R σ' W0 E' := fun h cls dd H' F' S' x e T xr q => h cls dd H' F' S' x e T xr q
end A

/-! ## len(set(xs)) of a list of ints -/
namespace A
open PySem PySem.Spec L2 PyProof.Rows
/-- how many unlike ints -/
def unl (ns : List Int) : Nat := (firstMet (fun i => ns.getD i 0) ns.length).length
theorem unl_nodup {ns : List Int} (h : ns.Nodup) : unl ns = ns.length := by
  unfold unl
  rw [L2.firstMet_nodup ns h ns.length (Nat.le_refl _), List.take_length]
section
variable {X : Cx} {W : WX} {a : Expr} {ta : TE} {aa : AE} {p p2 q pos : Pos}
def tLnSt (K : PySem.W.Frag) (ta : TE) : TE := fun σ H Q => ta σ H fun x H1 => ∃ (l : Addr) (ns : List Int), x = V.ref l ∧ SqL K H1 l (ns.map V.int) ∧ ns.length ≤ 4000 ∧ Q (.int (unl ns)) H1
theorem pe_lnSt (hc : X.calm = true) (hg : Gl X "len") (hm : X.mg "len" = none) (hg2 : Gl X "set") (hm2 : X.mg "set" = none) (ha : PE X a ta)
    (na : starEach [a] X.env = (false, eval a X.env) :: starEach [] X.env) : PE X (.Call (.Name "len" p) [.Call (.Name "set" p2) [a] [] q] [] pos) (tLnSt X.K ta) := by
  refine ⟨fun pins z σ H Q I hq => Call_ (ld_blt I hg hm PySem.boot_len (callWith_builtin1 (args_cons (Call_ (ld_blt I hg2 hm2 boot_set
    (callWith_type1 (args_cons (thn (ha.run pins z σ H _ I hq) fun v z1 ⟨x, H1, I1, r1, q1⟩ => args_nil ?_) na) na rfl))) rfl) rfl rfl))⟩
  obtain ⟨l, ns, rfl, hl, hn, q1⟩ := q1
  cases r1
  obtain ⟨its, r, pl, hz⟩ := I1.list hl
  have sz : its.toArray.size = ns.length := by rw [List.size_toArray, ← r.length, List.length_map]
  refine call_set_list (I1.ok.hd hc) pl.isList (ns := ns) (by simpa using r.ints) (by unfold scanBound; omega) fun g tk hS hk => args_nil ?_
  rw [sz] at hS
  obtain ⟨o, es, ep, t, ho, hex, hd, _, _, _, hf, hs⟩ := hS
  have I2 : Inv X pins σ H1 { z1 with heap := g, toks := tk } := I1.kept fun b o he => hk b o (Heap.lt_size he) he
  have hu : es.size = unl ns := hs
  have hb : unl ns ≤ ns.length := by
    unfold unl
    have : ∀ i, (firstMet (fun i => ns.getD i 0) i).length ≤ i := by
      intro i
      induction i with
      | zero => exact Nat.le_refl _
      | succ i ih =>
        rw [firstMet_succ]
        unfold step_dedup
        split
        · omega
        · rw [List.length_append, List.length_singleton]; omega
    exact this _
  exact call_len_set ho hex hd hf (by rw [hu]; omega) ⟨.int (unl ns), H1, I2.tok _, ⟨_, by rw [hu]⟩, q1⟩
def intsOf : List D → Option (List Int)
  | [] => some []
  | .int b :: r => (intsOf r).map (b :: ·)
  | _ :: _ => none
theorem intsOf_map : ∀ bs : List Int, intsOf (bs.map D.int) = some bs
  | [] => rfl
  | b :: r => by show (intsOf (r.map D.int)).map (b :: ·) = _; rw [intsOf_map r]; rfl
theorem intsOf_ok : ∀ {ds : List D} {bs : List Int}, intsOf ds = some bs → ds = bs.map D.int
  | [], _, h => by cases h; rfl
  | .int b :: r, bs, h => by
    have h' : (intsOf r).map (b :: ·) = some bs := h
    obtain ⟨q, e1, e2⟩ := Option.map_eq_some_iff.mp h'
    subst e2
    rw [intsOf_ok e1]
    rfl
  | .non :: _, _, h => by cases h
  | .bl _ :: _, _, h => by cases h
  | .str _ :: _, _, h => by cases h
  | .ty _ :: _, _, h => by cases h
  | .lst _ :: _, _, h => by cases h
  | .tup _ :: _, _, h => by cases h
  | .set _ :: _, _, h => by cases h
  | .own _ :: _, _, h => by cases h
  | .scr _ :: _, _, h => by cases h
def aLnSt (aa : AE) : AE := fun ρ S Q E => aa ρ S (fun d S1 => ∃ l ns, asL S1 d = some l ∧ intsOf l = some ns ∧ ns.length ≤ 4000 ∧ Q (.int (unl ns)) S1) E
theorem ea_lnSt (hc : X.calm = true) (hm : X.mg "len" = none) (hm2 : X.mg "set" = none) (ha : EA X W a ta aa) (hg : Gl X "len" := by rfl) (hg2 : Gl X "set" := by rfl)
    (na : starEach [a] X.env = (false, eval a X.env) :: starEach [] X.env := by rfl) : EA X W (.Call (.Name "len" p) [.Call (.Name "set" p2) [a] [] q] [] pos) (tLnSt X.K ta) (aLnSt aa) := by
  refine ⟨pe_lnSt hc hg hm hg2 hm2 ha.pe na, fun σ H F S R ρ Q E P T en wo q po => ha.re σ H F S R ρ _ E _ T en wo q fun v H1 F1 S1 d e1 T1 dv q1 => ?_⟩
  obtain ⟨l, ns, h1, h2, h3, q2⟩ := q1
  obtain ⟨b, xs, rfl, g1, g2, _⟩ := asL_ok T1 dv h1
  rw [intsOf_ok h2] at g2
  exact ⟨b, ns, rfl, by rw [← g2.toInts]; exact SqL.of g1, h3, po _ H1 F1 S1 _ e1 T1 (.int _) q2⟩
end
end A

namespace A
open PySem PySem.Spec L2 PyProof.Rows
section
variable {S : Sto} {Q : KD} {d e : D} {i j : Int} {b : Bool}
theorem atV_s {P : D → Prop} : atV (some (some d)) P = P d := rfl
theorem onB_b {f : Bool → Sto → Prop} : onB f (.bl b) S = f b S := rfl
theorem onI_i {f : Int → Sto → Prop} : onI f (.int i) S = f i S := rfl
theorem onII_i {f : Int → Int → Prop} : onII f (.int i) (.int j) = f i j := rfl
theorem onL1_i {f : Int → Prop} : onL1 f [.int i] = f i := rfl
theorem onL2_i {f : Int → Int → Prop} : onL2 f [.int i, .int j] = f i j := rfl
section
variable {P : List D → (Sto → Prop) → Sto → Prop} {l : List D} {z : Str} {ns : List Int}
theorem it_l : aItD (.lst l) S P = P l (fun _ => True) S := rfl
theorem it_t : aItD (.tup l) S P = P l (fun _ => True) S := rfl
theorem it_s : aItD (.scr ns) S P = P (ns.map D.int) (fun _ => True) S := rfl
theorem it_x : aItD (.str z) S P = (z.cps.size ≤ sizeLine ∧ P (signs z) (fun _ => True) S) := rfl
end
theorem ix_l {l : List D} : aIx (.lst l) (.int i) S Q = ∃ x, atI l i = some x ∧ Q x S := rfl
theorem ix_t {l : List D} : aIx (.tup l) (.int i) S Q = ∃ x, atI l i = some x ∧ Q x S := rfl
theorem ix_s {l : List Int} : aIx (.scr l) (.int i) S Q = ∃ x, atI l i = some x ∧ Q (.int x) S := rfl
theorem add_i : aAdd (.int i) (.int j) S Q = Q (.int (i + j)) S := rfl
theorem add_x {x y : Str} : aAdd (.str x) (.str y) S Q = (x.length + y.length ≤ sizeLine ∧ Q (.str (x ++ y)) S) := rfl
theorem eq_i {n : Bool} : aEqD n (.int i) (.int j) S Q = Q (.bl (if n then !decide (i = j) else decide (i = j))) S := rfl
theorem eq_x {n : Bool} {x y : Str} : aEqD n (.str x) (.str y) S Q = Q (.bl (if n then !decide (x = y) else decide (x = y))) S := rfl
theorem eq_b {n : Bool} {c : Bool} : aEqD n (.bl b) (.bl c) S Q = Q (.bl (if n then !decide (b = c) else decide (b = c))) S := rfl
theorem is_b {n : Bool} {c : Bool} : aIs n (.bl b) (.bl c) S Q = Q (.bl (if n then !decide (b = c) else decide (b = c))) S := rfl
end
local macro_rules | `(tactic| walk_at "A.go") => `(tactic| simp only [aSeq, aNext, aSet, aVar, atV_s, onB_b, onI_i, onII_i, onL1_i, onL2_i, it_l, it_t, it_s, it_x, ix_l, ix_t, ix_s, add_i, add_x, eq_i, eq_x, eq_b, is_b, aC, aNil, aCons, aOp, aUn, aTup, aLst, aCB, aNot, aAnd, aOr, aTst, aIfE, aAndV, aOrV, aNotV, aChn, aDrop, aRet, aRetN, aIf, agName, agNil, agCons, agTup, aAsg, aPar, aAug, aFor, aRng1, aRng2, aIter, aLc, aYes,
  aCl, aMt, aMk, aFl, aFst, aNeg, aI2, aI20, aLe, aLt, aGt, aGe, aSub, aMod, aMul, aFdv, aPow, aXor, aShl, aShr, agSub, aoN, aoS, aSl, aRev, aLen, aList, aTupOf, aLRg1, aLRg2, aAbs, aI2N, aMax, aMin, aDm, aAll, aAny, aBM, aApp, aPopAt, aPop, aClear, aRevM, aExt, aRepr, aClD, aLnSt, aIAdd, aBreak, aCont,
  aEnd, startA, List.map_cons, List.map_nil, List.cons_append, List.nil_append, List.length_cons, List.length_nil, List.replicate, List.getElem?_cons_zero, List.getElem?_cons_succ, List.set_cons_zero, List.set_cons_succ, Nat.reduceAdd, Nat.reduceSub, Nat.succ_eq_add_one, Int.reduceAdd, Int.reduceMul,
  reduceIte, Bool.false_eq_true, Bool.not_true, Bool.not_false, ite_true, ite_false])
theorem asL_own {S : Sto} {a : Addr} {l : List D} (h : S a = some (.lst l)) : asL S (.own a) = some l := by
  show (match S a with | some (.lst l) => some l | _ => none) = _
  rw [h]
theorem asL_inv {S : Sto} {a : Addr} {l : List D} (h : asL S (.own a) = some l) : S a = some (.lst l) := by
  have h' : (match S a with | some (.lst l) => some l | _ => none) = some l := h
  split at h'
  · rename_i m e; cases h'; exact e
  · cases h'
theorem asL_sub {S S' : Sto} {d : D} {l : List D} (h : Sub S S') (e : asL S d = some l) : asL S' d = some l := by
  cases d with
  | lst m => exact e
  | own a => exact asL_own (h a _ (asL_inv e))
  | _ => cases e
theorem ix_asL {S : Sto} {d x : D} {l : List D} {i : Int} {Q : KD} (h : asL S d = some l) (e : atI l i = some x) (q : Q x S) : aIx d (.int i) S Q := by
  cases d with
  | lst m => cases h; exact ⟨x, e, q⟩
  | own a =>
    unfold aIx
    simp only [asL_inv h]
    exact ⟨x, e, q⟩
  | _ => cases h
theorem ix_pot {S : Sto} {a : Addr} {i : Int} {Q : KD} (h : S a = some .pot) (q : ∀ x y, PotOk x y → ∃ z, atI [x, y] i = some z ∧ Q (.int z) S) : aIx (.own a) (.int i) S Q := by
  unfold aIx
  simp only [h]
  exact q
theorem put_own {S : Sto} {a : Addr} {i : Int} {j : Nat} {v : D} {l : List D} {Q : Sto → Prop} (h : S a = some (.lst l)) (e : ixN l.length i = some j) (q : Q (put S a (.lst (l.set j v)))) : aPut (.own a) (.int i) v S Q := by
  unfold aPut
  simp only [h]
  exact ⟨j, e, q⟩
theorem put_pot0 {S : Sto} {a : Addr} {n : Int} {Q : Sto → Prop} (h : S a = some .pot) (n0 : 0 ≤ n) (n1 : n.natAbs.log2 < 2 ^ 20 + 64) (q : Q S) : aPut (.own a) (.int 0) (.int n) S Q := by
  unfold aPut
  simp only [h]
  exact ⟨n, rfl, .inl ⟨trivial, n0, n1⟩, q⟩
theorem put_pot1 {S : Sto} {a : Addr} {n : Int} {Q : Sto → Prop} (h : S a = some .pot) (n0 : 0 ≤ n) (n1 : n < 2147483648) (q : Q S) : aPut (.own a) (.int 1) (.int n) S Q := by
  unfold aPut
  simp only [h]
  exact ⟨n, rfl, .inr ⟨trivial, n0, n1⟩, q⟩
theorem iter_asL {S : Sto} {d : D} {l : List D} {Q : List D → (Sto → Prop) → Sto → Prop} (h : asL S d = some l) (q : ∀ G : Sto → Prop, (∀ S', asL S' d = some l → G S') → Q l G S) : aItD d S Q := by
  cases d with
  | lst m => cases h; exact q _ fun _ _ => trivial
  | own a => exact ⟨l, asL_inv h, q _ fun S' h2 => asL_inv h2⟩
  | _ => cases h
theorem tyD_asL {S : Sto} {d : D} {l : List D} (h : asL S d = some l) : tyD S d = some (.type "list") := by
  cases d with
  | lst m => rfl
  | own a =>
    unfold tyD
    simp only [asL_inv h]
  | _ => cases h
theorem lenD_asL {S : Sto} {d : D} {l : List D} (h : asL S d = some l) : lenD S d = some l.length := by
  cases d with
  | lst m => cases h; rfl
  | own a =>
    unfold lenD
    simp only [asL_inv h]
  | _ => cases h
theorem itD_asL {S : Sto} {d : D} {l : List D} (h : asL S d = some l) : itD S d = some l := by
  cases d with
  | lst m => exact h
  | own a => exact h
  | _ => cases h
end A

/-! ## loops by invariants; data of ints -/
namespace A
open PySem PySem.Spec L2 PyProof.Rows
local macro_rules | `(tactic| walk_at "A.go") => `(tactic| simp only [aSeq, aNext, aSet, aVar, atV_s, onB_b, onI_i, onII_i, onL1_i, onL2_i, it_l, it_t, it_s, it_x, ix_l, ix_t, ix_s, add_i, add_x, eq_i, eq_x, eq_b, is_b, aC, aNil, aCons, aOp, aUn, aTup, aLst, aCB, aNot, aAnd, aOr, aTst, aIfE, aAndV, aOrV, aNotV, aChn, aDrop, aRet, aRetN, aIf, agName, agNil, agCons, agTup, aAsg, aPar, aAug, aFor, aRng1, aRng2, aIter, aLc, aYes,
  aCl, aMt, aMk, aFl, aFst, aNeg, aI2, aI20, aLe, aLt, aGt, aGe, aSub, aMod, aMul, aFdv, aPow, aXor, aShl, aShr, agSub, aoN, aoS, aSl, aRev, aLen, aList, aTupOf, aLRg1, aLRg2, aAbs, aI2N, aMax, aMin, aDm, aAll, aAny, aBM, aApp, aPopAt, aPop, aClear, aRevM, aExt, aRepr, aClD, aLnSt, aIAdd, aBreak, aCont,
  aEnd, startA, List.map_cons, List.map_nil, List.cons_append, List.nil_append, List.length_cons, List.length_nil, List.replicate, List.getElem?_cons_zero, List.getElem?_cons_succ, List.set_cons_zero, List.set_cons_succ, Nat.reduceAdd, Nat.reduceSub, Nat.succ_eq_add_one, Int.reduceAdd, Int.reduceMul,
  reduceIte, Bool.false_eq_true, Bool.not_true, Bool.not_false, ite_true, ite_false])

theorem aLoop_inv {g : AG} {b : AS} {E : AEnds} {G : Sto → Prop} {ds : List D} (I : Nat → En → Sto → Prop)
    (step : ∀ i d ρ S (nx : En → Sto → Prop), ds[i]? = some d → I i ρ S → (∀ ρ' S', I (i + 1) ρ' S' → nx ρ' S') → G S ∧ g d ρ S (fun ρ1 S1 => b { E with nx := nx, ct := nx, bk := E.nx } ρ1 S1) (E.xx ρ))
    (last : ∀ ρ S, I ds.length ρ S → G S ∧ E.nx ρ S) : ∀ {ρ : En} {S : Sto}, I 0 ρ S → aLoop g b E G ds ρ S := by
  have main : ∀ (k i : Nat), i + k = ds.length → ∀ ρ S, I i ρ S → aLoop g b E G (ds.drop i) ρ S := by
    intro k
    induction k with
    | zero =>
      intro i hi ρ S h
      have e : i = ds.length := by omega
      subst e
      rw [List.drop_length]
      exact last ρ S h
    | succ k ih =>
      intro i hi ρ S h
      have lt : i < ds.length := by omega
      rw [List.drop_eq_getElem_cons lt]
      exact step i ds[i] ρ S _ (List.getElem?_eq_getElem lt) h fun ρ' S' h' => ih (i + 1) (by omega) ρ' S' h'
  intro ρ S h
  exact main ds.length 0 (by omega) ρ S h
theorem aLcL_inv {g : AG} {tt : AT} {e : AE} {G : Sto → Prop} {ρ0 : En} {Q : KD} {ds : List D} (I : Nat → List D → Sto → Prop)
    (step : ∀ i d acc S (k : List D → Sto → Prop), ds[i]? = some d → I i acc S → (∀ acc' S', I (i + 1) acc' S' → k acc' S') →
      G S ∧ g d ρ0 S (fun ρ2 S2 => tt ρ2 S2 (fun b S3 => if b = true then e ρ2 S3 (fun v S4 => k (acc ++ [v]) S4) noX else k acc S3) noX) noX)
    (last : ∀ acc S, I ds.length acc S → G S ∧ NewL acc S Q) : ∀ {S : Sto}, I 0 [] S → aLcL g tt e G ρ0 Q ds [] S := by
  have main : ∀ (k i : Nat), i + k = ds.length → ∀ acc S, I i acc S → aLcL g tt e G ρ0 Q (ds.drop i) acc S := by
    intro k
    induction k with
    | zero =>
      intro i hi acc S h
      have z : i = ds.length := by omega
      subst z
      rw [List.drop_length]
      exact last acc S h
    | succ k ih =>
      intro i hi acc S h
      have lt : i < ds.length := by omega
      rw [List.drop_eq_getElem_cons lt]
      exact step i ds[i] acc S (fun acc' S' => aLcL g tt e G ρ0 Q (ds.drop (i + 1)) acc' S') (List.getElem?_eq_getElem lt) h fun acc' S' h' => ih (i + 1) (by omega) acc' S' h'
  intro S h
  exact main ds.length 0 (by omega) [] S h
/-- [e for x in ds] where each value is f of the item and nothing else changes -/
theorem aLcL_map {i : Nat} {e : AE} {G : Sto → Prop} {ρ0 : En} {Q : KD} {ds : List D} {S : Sto} (f : D → D) (hG : G S) (step : ∀ d ∈ ds, ∀ k : D → Sto → Prop, k (f d) S → e (ρ0.set i (some d)) S k noX)
    (q : NewL (ds.map f) S Q) : aLcL (agName i) aYes e G ρ0 Q ds [] S := by
  refine aLcL_inv (fun j acc S' => S' = S ∧ acc = (ds.take j).map f) ?_ ?_ ⟨rfl, rfl⟩
  · rintro j d acc S' k hd ⟨rfl, rfl⟩ hk
    refine ⟨hG, ?_⟩
    change e (ρ0.set i (some d)) S' (fun v S4 => k ((ds.take j).map f ++ [v]) S4) noX
    refine step d (List.mem_of_getElem? hd) _ (hk _ _ ⟨rfl, ?_⟩)
    rw [List.take_add_one, hd]
    simp
  · rintro acc S' ⟨rfl, rfl⟩
    rw [List.take_length]
    exact ⟨hG, q⟩

/-! ### other views of several values -/
theorem ret_gh {Q : KD} {d d' : D} {S S' : Sto} (h : Gh d S d' S') (q : Q d' S') : Ret Q d S := ⟨d', S', h, q⟩
theorem sub_del {S : Sto} {a : Addr} {c : Cell} (h : S a = none) : Sub S (put S a c) := (Sub.refl S).put h
/-- a list of one's own, made since, is data from now on -/
theorem ret_new {Q : KD} {p : Addr} {ds : List D} {S : Sto} (n : S p = none) (q : Q (.lst ds) S) : Ret Q (.own p) (put S p (.lst ds)) := ret_freeze q (sub_del n) put_same n

/-! ### ints -/
theorem rd_ints {S : Sto} {n : Nat} (l : List Int) : rd S (n + 2) (.lst (l.map D.int)) = some (.list (l.map PyData.int)) := by
  show (rdL (rd S (n + 1)) (l.map D.int)).map PyData.list = _
  rw [rdL_map (f := rd S (n + 1)) (g := D.int) (h := PyData.int) fun _ => rfl]
  rfl
theorem rd_own {S : Sto} {n : Nat} {a : Addr} {l : List D} (h : S a = some (.lst l)) : rd S (n + 1) (.own a) = rd S (n + 1) (.lst l) := by
  show (match S a with | some (.lst l) => (rdL (rd S n) l).map PyData.list | _ => none) = _
  rw [h]
  rfl
theorem eqv_ints : ∀ l m : List Int, PyData.eqvAll (l.map PyData.int) (m.map PyData.int) = decide (l = m)
  | [], [] => rfl
  | [], _ :: _ => rfl
  | _ :: _, [] => rfl
  | a :: l, b :: m => by
    simp only [List.map_cons, PyData.eqvAll, PyData.eqv, eqv_ints l m]
    by_cases h : a = b
    · subst h; simp
    · simp [h]
theorem eqv_listInts (l m : List Int) : PyData.eqv (.list (l.map PyData.int)) (.list (m.map PyData.int)) = decide (l = m) := by
  simp only [PyData.eqv]
  exact eqv_ints l m
theorem any_ints (l : List Int) (i : Int) : (l.map PyData.int).any (fun z => PyData.eqv z (.int i)) = decide (i ∈ l) := by
  induction l with
  | nil => rfl
  | cons a l ih =>
    simp only [List.map_cons, List.any_cons, ih, PyData.eqv]
    by_cases h : a = i
    · subst h; simp
    · simp [h, Ne.symm h]
theorem cdivp {i j : Int} (h : 0 < j) (k : j.natAbs.log2 < 9000) : CDivP i j := ⟨h, PyProof.noPylong_of_log2 k⟩
theorem log2_small {n k : Nat} (h : n < 2 ^ k) (hk : 0 < k) : n.log2 < k := by
  by_cases z : n = 0
  · subst z; simpa using hk
  · exact (Nat.log2_lt z).mpr h
theorem log2_le {m n k : Nat} (h : m ≤ n) (hn : n.log2 < k) : m.log2 < k := by
  by_cases z : m = 0
  · subst z; exact Nat.lt_of_le_of_lt (by simp) hn
  · exact (Nat.log2_lt z).mpr (Nat.lt_of_le_of_lt h ((Nat.log2_lt (by omega)).mp hn))
def rng (n : Nat) : List Int := (List.range n).map fun (i : Nat) => (i : Int)
theorem rngD0 (n : Nat) : rngD 0 n = (rng n).map D.int := by
  unfold rngD rng
  rw [List.map_map]
  refine List.map_congr_left fun i _ => ?_
  simp
theorem rng_length {n : Nat} : (rng n).length = n := by unfold rng; simp
theorem mem_rng {n : Nat} {i : Int} : i ∈ rng n ↔ 0 ≤ i ∧ i < n := by
  unfold rng
  rw [List.mem_map]
  constructor
  · rintro ⟨k, hk, rfl⟩
    rw [List.mem_range] at hk
    omega
  · rintro ⟨h1, h2⟩
    exact ⟨i.toNat, List.mem_range.mpr (by omega), by omega⟩
theorem rng_nodup {n : Nat} : (rng n).Nodup := by
  unfold rng
  refine List.Pairwise.map _ (fun a b h => ?_) List.nodup_range
  intro z
  exact h (by omega)
theorem rng_get {n i : Nat} (h : i < n) : (rng n)[i]? = some (i : Int) := by
  unfold rng
  rw [List.getElem?_map, List.getElem?_range h]
  rfl
theorem kit_int_bool {K : PySem.W.Frag} : PySem.W.kitOne K (.type "int") (.type "bool") = some false := by kernel_rfl
theorem kit_int_int {K : PySem.W.Frag} : PySem.W.kitOne K (.type "int") (.type "int") = some true := by kernel_rfl
theorem kit_list_list {K : PySem.W.Frag} : PySem.W.kitOne K (.type "list") (.type "list") = some true := by kernel_rfl
theorem kit_tup_tup {K : PySem.W.Frag} : PySem.W.kitOne K (.type "tuple") (.type "tuple") = some true := by kernel_rfl
/-- isinstance, one's type and the asked one known -/
theorem isi_ty {K : PySem.W.Frag} {ok : Addr → Prop} {d : D} {n : String} {t : Value} {b : Bool} {S : Sto} {Q : KD} (h : tyD S d = some t) (nr : ∀ C, t ≠ .ref C) (k : PySem.W.kitOne K t (.type n) = some b) (q : Q (.bl b) S) : aIsi K ok [d, .ty n] S Q :=
  ⟨d, .ty n, t, .type n, b, rfl, rfl, h, fun C e => absurd e (nr C), k, q⟩
end A

/-! ## a law's end -/
namespace A
open PySem PySem.Spec L2 PyProof.Rows
local macro_rules | `(tactic| walk_at "A.go") => `(tactic| simp only [aSeq, aNext, aSet, aVar, atV_s, onB_b, onI_i, onII_i, onL1_i, onL2_i, it_l, it_t, it_s, it_x, ix_l, ix_t, ix_s, add_i, add_x, eq_i, eq_x, eq_b, is_b, aC, aNil, aCons, aOp, aUn, aTup, aLst, aCB, aNot, aAnd, aOr, aTst, aIfE, aAndV, aOrV, aNotV, aChn, aDrop, aRet, aRetN, aIf, agName, agNil, agCons, agTup, aAsg, aPar, aAug, aFor, aRng1, aRng2, aIter, aLc, aYes,
  aCl, aMt, aMk, aFl, aFst, aNeg, aI2, aI20, aLe, aLt, aGt, aGe, aSub, aMod, aMul, aFdv, aPow, aXor, aShl, aShr, agSub, aoN, aoS, aSl, aRev, aLen, aList, aTupOf, aLRg1, aLRg2, aAbs, aI2N, aMax, aMin, aDm, aAll, aAny, aBM, aApp, aPopAt, aPop, aClear, aRevM, aExt, aRepr, aClD, aLnSt, aIAdd, aBreak, aCont,
  aEnd, startA, List.map_cons, List.map_nil, List.cons_append, List.nil_append, List.length_cons, List.length_nil, List.replicate, List.getElem?_cons_zero, List.getElem?_cons_succ, List.set_cons_zero, List.set_cons_succ, Nat.reduceAdd, Nat.reduceSub, Nat.succ_eq_add_one, Int.reduceAdd, Int.reduceMul,
  reduceIte, Bool.false_eq_true, Bool.not_true, Bool.not_false, ite_true, ite_false])

/-- the numbers of a script are not too wide -/
def Bits (ns : List Int) : Prop := ∀ n ∈ ns, n.natAbs.log2 < 2 ^ 20 + 64
def noS : Sto := fun _ => none
section
variable {P : Program} {w : World} {K : PySem.W.Frag} {mg mb : Str → Option Value} {k : Nat} {g a : Addr} {fd : FuncData} {x : Str} {sp : SpA} {z : Shared} {us : List Value} {ns : List Int}
theorem only_dict {H : Hp} (oa : ∀ b, H b ≠ none → b = a) (ga : z.heap.get? a = some { cls := .type "list", data := .seq us.toArray }) {b : Addr} {m : Str → Option Value} (q : z.heap.Ns b m) : (hidT z.heap H).Ns b m := by
  obtain ⟨o, es, ep, e1, e2, e3⟩ := q
  refine ⟨o, es, ep, hidT_get e1 ?_, e2, e3⟩
  cases hb : H b with
  | none => rfl
  | some u =>
    have := oa b (by rw [hb]; exact nofun)
    subst this
    rw [ga] at e1
    cases e1
    cases (show Data.seq us.toArray _ = Data.dict es ep from e2)
/-- the law's def at the script, H telling no more than the script -/
theorem end_core (KX : K.In z.heap) (hg : z.heap.Ns mainGlobals mg) (hb : z.heap.Ns builtinsNs mb) (hbb : ∀ x : Str, x ≠ "__name__" → mb x = bootBuiltins x) (nl : z.heap.NoLimit) (gz : z.gens = #[])
    (ga : z.heap.get? a = some { cls := .type "list", data := .seq us.toArray }) (hl : ns.length ≤ sizeLine) (hr : Room k callerA)
    (F : ∀ base : Heap, K.In base → base.Ns mainGlobals mg → FnA P w K mg base k g fd [x] sp) (bi : ∀ (s : Shared) (u : Value), BindsTo s fd ⟨[u], []⟩ [(x, u)])
    (q : sp [.scr ns] noS (fun d _ => d = .bl true) noX) {H : Hp} (hO : Only H) (hS : SqL K H a (ns.map V.int)) (ok : HOk P w H z.heap) (oa : ∀ b, H b ≠ none → b = a) (ka : H a ≠ none → K.lookup a = none) :
    codeAny (model P w) callerA (.call (.ref g) ⟨[.ref a], []⟩) (fun r t => r = .ok (.ret (.bool true)) ∧ OldK z.heap t.heap ∧ t.os = z.os ∧ AllBare t.gens) z := by
  have hK : K.In (hidT z.heap H) := fun b o e => by
    refine hidT_get (KX b o e) ?_
    cases hb : H b with
    | none => rfl
    | some u =>
      have := oa b (by rw [hb]; exact nofun)
      subst this
      rw [ka (by rw [hb]; exact nofun)] at e
      cases e
  have gG := only_dict oa ga hg
  have md : Mod K mg (hidT z.heap H) := ⟨hK, gG, ⟨mb, only_dict oa ga hb, hbb⟩, by
    obtain ⟨mc, h1, h2⟩ := nl
    exact ⟨mc, only_dict oa ga h1, h2⟩⟩
  have en : Env0 P w K mg (hidT z.heap H) callerA [] z H := ⟨rfl, md, fun _ _ h => of_hidT h, Nat.le_of_eq (hidT_size _ _), trivial, fun _ h => (List.not_mem_nil h).elim, ok, .of_eq gz⟩
  have st : Sta ⟨K, w⟩ H noS noS H := ⟨Same.refl _, (fun _ _ h => by cases h), (fun _ _ h => by cases h)⟩
  have sq : csp ⟨K, w⟩ sp [.ref a] H (fun v _ => v = .bl true) (fun _ _ _ => False) :=
    ⟨[.scr ns], H, noS, noS, _, noX, .cons (.scr hS hl) .nil, st, q, fun v H' F' S' d _ _ dv e => by subst e; cases dv; rfl, fun _ _ _ _ _ _ _ _ _ h => h.elim⟩
  refine codeAny_mono ((F _ hK gG).g.run callerA [] z H ⟨[.ref a], []⟩ [.ref a] [.ref a] _ _ ⟨hr, rfl⟩ en (bi z (.ref a)) (show Vals [V.ref a] [Value.ref a] from .cons rfl .nil) sq) fun r t h => ?_
  match r, h with
  | .error e, h =>
    obtain ⟨_, _, _, _, _, _, _, _, _, _, _, _, no⟩ := h
    exact no.elim
  | .ok .next, h => exact False.elim h
  | .ok .brk, h => exact False.elim h
  | .ok .cont, h => exact False.elim h
  | .ok (.ret u), h =>
    obtain ⟨v, H1, ho, hbare, un, ok1, ru, rfl⟩ := h
    obtain rfl : u = Value.bool true := ru
    refine ⟨rfl, OldK.of_keep fun b o hbo => ?_, ho, hbare⟩
    rcases hO b with n | ⟨ob, xs, f⟩
    · exact un.keep b o hbo n (fun h => (List.not_mem_nil h).elim) (by simp)
    · obtain ⟨h1, _⟩ := ok b _ f
      obtain ⟨h2, _⟩ := ok1 b _ (un.frzs b ob _ f)
      rw [hbo] at h1
      cases h1
      exact h2
theorem law_callG (KX : K.In z.heap) (hg : z.heap.Ns mainGlobals mg) (hb : z.heap.Ns builtinsNs mb) (hbb : ∀ x : Str, x ≠ "__name__" → mb x = bootBuiltins x) (nl : z.heap.NoLimit) (gz : z.gens = #[])
    (ga : z.heap.get? a = some { cls := .type "list", data := .seq us.toArray }) (hi : IntsAre us ns) (hl : ns.length ≤ sizeLine) (hr : Room k callerA)
    (F : ∀ base : Heap, K.In base → base.Ns mainGlobals mg → FnA P w K mg base k g fd [x] sp) (bi : ∀ (s : Shared) (u : Value), BindsTo s fd ⟨[u], []⟩ [(x, u)])
    (q : sp [.scr ns] noS (fun d _ => d = .bl true) noX) :
    codeAny (model P w) callerA (.call (.ref g) ⟨[.ref a], []⟩) (fun r t => r = .ok (.ret (.bool true)) ∧ OldK z.heap t.heap ∧ t.os = z.os ∧ AllBare t.gens) z := by
  have rv := vals_ints hi
  have core := @end_core P w K mg mb k g a fd x sp z us ns KX hg hb hbb nl gz ga hl hr F bi q
  cases lk : K.lookup a with
  | some o =>
    have h1 := KX a o lk
    rw [ga] at h1
    cases h1
    exact core (H := fun _ => none) (fun _ => .inl rfl) (.inr ⟨_, us.toArray, _, lk, rfl, rfl, rfl, by rw [List.size_toArray, hi.length]; exact hl, by simpa using rv⟩) (fun _ _ h => by cases h) (fun _ h => (h rfl).elim) fun h => (h rfl).elim
  | none =>
    have yes : (fun b => if b = a then some (HO.frz { cls := .type "list", data := .seq us.toArray } (.lst (ns.map V.int))) else none) a = some (.frz { cls := .type "list", data := .seq us.toArray } (.lst (ns.map V.int))) := if_pos rfl
    refine core (H := fun b => if b = a then some (.frz { cls := .type "list", data := .seq us.toArray } (.lst (ns.map V.int))) else none) (fun b => ?_) (.inl (.inr ⟨_, yes⟩)) (fun b u h => ?_) (fun b h => ?_) fun _ => lk
    · by_cases e : b = a
      · exact .inr ⟨{ cls := .type "list", data := .seq us.toArray }, ns.map V.int, by rw [e]; exact yes⟩
      · exact .inl (if_neg e)
    · by_cases e : b = a
      · subst e
        have h2 := yes.symm.trans h
        cases h2
        exact ⟨ga, by rw [List.length_map]; exact hl, us, _, rv, ga⟩
      · have h2 := (if_neg e).symm.trans h
        cases h2
    · by_cases e : b = a
      · exact e
      · exact (h (if_neg e)).elim
end
/-- a law: the written part, the function object, the promise over every base -/
theorem walk_G {l : PySem.W.OpenLaw} {n k : Nat} {q : Program} {loose : List Str} {XP : (Str → Option Value) → Heap → Prop} {YP : World → Heap → Prop} {d : DefRec} {x : Str}
    (hn : l.most = some n) (hn2 : n ≤ sizeLine) (hdf : d.params.defaults = []) (hr : Room k callerA)
    (F : ∀ (w : World) (mg : Str → Option Value) (g : Addr) (h : Heap), YP w h → h.Ns mainGlobals mg → mg d.name = some (.ref g) → ∃ (K : PySem.W.Frag) (fd : FuncData) (sp : SpA), K.In h ∧ (∀ (s : Shared) (u : Value), BindsTo s fd ⟨[u], []⟩ [(x, u)]) ∧
      (∀ ns : List Int, ns.length ≤ n → Bits ns → sp [.scr ns] noS (fun d _ => d = .bl true) noX) ∧ ∀ base : Heap, K.In base → base.Ns mainGlobals mg → FnA l.prog w K mg base k g fd [x] sp) :
    PySem.W.WalkO q loose XP YP l.row.toRowW d [] (fun f vs => PySem.call f vs) := by
  refine Att.attach_callB hn hdf fun w s0 z mg mb g o pm cd doc a us ns G Y h1 h2 h3 h4 ga hi hlen hbits gz => ?_
  obtain ⟨K, fd, sp, KX, bi, hsp, hF⟩ := F w mg g _ Y G.T.g h4
  refine law_callG KX G.T.g G.T.b G.T.builtins G.T.nolimit gz ga hi (Nat.le_trans hlen hn2) hr hF bi (hsp ns hlen fun i hi => ?_)
  have hb := hbits i hi
  unfold Builtin.Int.intBits at hb
  split at hb
  · rename_i e
    have : i = 0 := by simpa using e
    subst this
    rw [show (0 : Int).natAbs.log2 = 0 by decide]
    exact Nat.succ_pos _
  · have e : (2 : Nat) ^ 20 = 1048576 := by decide
    rw [e]
    omega
end A

/-! ## dicts -/
namespace A
open PySem PySem.Spec L2 PyProof.Rows
local macro_rules | `(tactic| walk_at "A.go") => `(tactic| simp only [aSeq, aNext, aSet, aVar, atV_s, onB_b, onI_i, onII_i, onL1_i, onL2_i, it_l, it_t, it_s, it_x, ix_l, ix_t, ix_s, add_i, add_x, eq_i, eq_x, eq_b, is_b, aC, aNil, aCons, aOp, aUn, aTup, aLst, aCB, aNot, aAnd, aOr, aTst, aIfE, aAndV, aOrV, aNotV, aChn, aDrop, aRet, aRetN, aIf, agName, agNil, agCons, agTup, aAsg, aPar, aAug, aFor, aRng1, aRng2, aIter, aLc, aYes,
  aCl, aMt, aMk, aFl, aFst, aNeg, aI2, aI20, aLe, aLt, aGt, aGe, aSub, aMod, aMul, aFdv, aPow, aXor, aShl, aShr, agSub, aoN, aoS, aSl, aRev, aLen, aList, aTupOf, aLRg1, aLRg2, aAbs, aI2N, aMax, aMin, aDm, aAll, aAny, aBM, aApp, aPopAt, aPop, aClear, aRevM, aExt, aRepr, aClD, aLnSt, aIAdd, aBreak, aCont,
  aEnd, startA, List.map_cons, List.map_nil, List.cons_append, List.nil_append, List.length_cons, List.length_nil, List.replicate, List.getElem?_cons_zero, List.getElem?_cons_succ, List.set_cons_zero, List.set_cons_succ, Nat.reduceAdd, Nat.reduceSub, Nat.succ_eq_add_one, Int.reduceAdd, Int.reduceMul,
  reduceIte, Bool.false_eq_true, Bool.not_true, Bool.not_false, ite_true, ite_false])
def valA (m : List (Key × D)) (k : Key) : Option D := (m.find? fun p => decide (p.1 = k)).map (·.2)
def putKA (m : List (Key × D)) (k : Key) (d : D) : List (Key × D) := if (m.any fun p => decide (p.1 = k)) = true then m.map (fun p => if p.1 = k then (p.1, d) else p) else m ++ [(k, d)]
section
variable {K : KW} {F H : Hp} {S R : Sto}
theorem DvP.val {k : Key} : ∀ {l : List (Key × V)} {m : List (Key × D)}, DvP K F l m → (valA m k = Option.none ∧ valV l k = Option.none) ∨ ∃ d v, valA m k = Option.some d ∧ valV l k = Option.some v ∧ Dv K F v d
  | _, _, .nil => .inl ⟨rfl, rfl⟩
  | (k1, v) :: l, (k2, d) :: m, .cons h t => by
    have e : k1 = k2 := h.1
    subst e
    unfold valA valV
    rw [List.find?_cons, List.find?_cons]
    by_cases q : k1 = k
    · simp only [q, decide_true]
      exact .inr ⟨d, v, rfl, rfl, h.2⟩
    · simp only [q, decide_false]
      exact DvP.val t
theorem DvP.any {k : Key} : ∀ {l : List (Key × V)} {m : List (Key × D)}, DvP K F l m → (l.any fun p => decide (p.1 = k)) = m.any fun p => decide (p.1 = k)
  | _, _, .nil => rfl
  | (k1, v) :: l, (k2, d) :: m, .cons h t => by
    have e : k1 = k2 := h.1
    subst e
    rw [List.any_cons, List.any_cons, DvP.any t]
theorem DvP.mapK {k : Key} {v : V} {d : D} (q : Dv K F v d) : ∀ {l : List (Key × V)} {m : List (Key × D)}, DvP K F l m → DvP K F (l.map fun p => if p.1 = k then (p.1, v) else p) (m.map fun p => if p.1 = k then (p.1, d) else p)
  | _, _, .nil => .nil
  | (k1, v1) :: l, (k2, d1) :: m, .cons h t => by
    have e : k1 = k2 := h.1
    subst e
    rw [List.map_cons, List.map_cons]
    by_cases z : k1 = k
    · simp only [z, if_pos]
      exact .cons ⟨rfl, q⟩ (DvP.mapK q t)
    · simp only [z, if_false]
      exact .cons h (DvP.mapK q t)
theorem DvP.snoc {κ : Type} {l : List (κ × V)} {m : List (κ × D)} {k : κ} {v : V} {d : D} (q : Dv K F v d) : DvP K F l m → DvP K F (l ++ [(k, v)]) (m ++ [(k, d)])
  | .nil => .cons ⟨rfl, q⟩ .nil
  | .cons h t => .cons h (DvP.snoc q t)
theorem DvP.putK {k : Key} {v : V} {d : D} {l : List (Key × V)} {m : List (Key × D)} (h : DvP K F l m) (q : Dv K F v d) : DvP K F (L2.putK l k v) (putKA m k d) := by
  unfold L2.putK putKA
  rw [h.any]
  split
  · exact h.mapK q
  · exact h.snoc q
theorem DvP.len {κ : Type} : ∀ {l : List (κ × V)} {m : List (κ × D)}, DvP K F l m → l.length = m.length
  | _, _, .nil => rfl
  | _, _, .cons _ t => congrArg Nat.succ (DvP.len t)
theorem putKA_len (m : List (Key × D)) (k : Key) (d : D) : (putKA m k d).length ≤ m.length + 1 := by
  unfold putKA
  split
  · rw [List.length_map]; omega
  · rw [List.length_append]; exact Nat.le_refl _
def keyD : D → Option Key
  | .int i => some (.inl i)
  | .str x => some (.inr x)
  | _ => none
def dKey : Key → D
  | .inl i => .int i
  | .inr x => .str x
theorem keyD_ok {v : V} {d : D} {k : Key} (h : Dv K F v d) (e : keyD d = some k) : v = kV k := by
  cases h with
  | int i => cases e; rfl
  | str x => cases e; rfl
  | _ => cases e
/-- one's own dict -/
def dctOf (S : Sto) : D → Option (List (Key × D))
  | .own a => match S a with | some (.dct m) => some m | _ => none
  | _ => none
theorem dct_ok {v : V} {d : D} {m : List (Key × D)} (T : Sta K F S R H) (h : Dv K F v d) (e : dctOf S d = some m) : ∃ a l, d = .own a ∧ v = .ref a ∧ S a = some (.dct m) ∧ H a = some (.dK l) ∧ DvP K F l m ∧ m.length ≤ sizeLine := by
  cases h with
  | own a =>
    have e' : (match S a with | some (.dct m) => some m | _ => none) = some m := e
    split at e'
    · rename_i m' hS
      cases e'
      obtain ⟨_, z, l, h1, h2⟩ := T.own _ _ hS
      exact ⟨a, l, rfl, rfl, hS, h1, h2, z⟩
    · cases e'
  | _ => cases e
theorem dctOf_own {a : Addr} {m : List (Key × D)} (h : S a = some (.dct m)) : dctOf S (.own a) = some m := by
  unfold dctOf
  simp only [h]
end
section
variable {X : Cx} {W : WX} {o i e : Expr} {to ti te : TE} {ao ai ae : AE} {pos pos' : Pos} {t : TA} {ar : AA}
theorem room1 {k : Nat} (hr : RoomG k X.A) : X.A.units + 1 < cLine := by have := hr.room.un; omega
/-- {} -/
def aDNew : AE := fun _ S Q _ => ∀ a, S a = none → Q (.own a) (put S a (.dct []))
theorem ea_dnew : EA X W (.Dict [] [] pos) tDNewK aDNew := ⟨pe_dnewK, fun σ H F S R ρ Q E P T en wo q po => fun p hp =>
  po (.ref p) _ F _ (.own p) (Same.refl _) (T.owned (c := .dct []) hp ⟨Nat.zero_le _, [], upd_same, .nil⟩) (.own p) (q p (T.free hp).2.1)⟩
/-- d[k] -/
def aDIx (ao ai : AE) : AE := fun ρ S Q E => ao ρ S (fun d S1 => ai ρ S1 (fun e S2 => ∃ m k x, dctOf S2 d = some m ∧ keyD e = some k ∧ valA m k = some x ∧ Q x S2) E) E
theorem ea_dix {k : Nat} (hr : RoomG k X.A) (ho : EA X W o to ao) (hi : EA X W i ti ai) (hs : NoSl i := by intro _ _; rfl) : EA X W (.Subscript o i pos) (tDGet to ti) (aDIx ao ai) := by
  refine ⟨pe_dget (room1 hr) ho.pe hi.pe hs, fun σ H F S R ρ Q E P T en wo q po => ho.re σ H F S R ρ _ E _ T en wo q fun v H1 F1 S1 d e1 T1 dv q1 => ?_⟩
  refine hi.re σ H1 F1 S1 R ρ _ E _ T1 (en.mono e1) (wo.mono e1) q1 fun u H2 F2 S2 e e2 T2 du q2 => ?_
  obtain ⟨m, k, x, h1, h2, h3, q3⟩ := q2
  obtain ⟨a, l, rfl, rfl, hS, hH, hp, _⟩ := dct_ok T2 (dv.mono e2) h1
  have ek := keyD_ok du h2
  subst ek
  rcases hp.val (k := k) with ⟨z, _⟩ | ⟨d, w', z1, z2, z3⟩
  · rw [h3] at z; cases z
  · rw [h3] at z1
    cases z1
    exact ⟨a, w', rfl, by have := DGet.k (k := k) hH; rwa [z2] at this, po w' H2 F2 S2 x (e1.trans e2) T2 z3 q3⟩
/-- k in d -/
def aDIn (neg : Bool) (ai ao : AE) : AE := fun ρ S Q E => ai ρ S (fun e S1 => ao ρ S1 (fun d S2 => ∃ m k, dctOf S2 d = some m ∧ keyD e = some k ∧ Q (.bl (if neg then !(valA m k).isSome else (valA m k).isSome)) S2) E) E
theorem re_din {neg : Bool} (hi : RE X.kw W ti ai) (ho : RE X.kw W to ao) : RE X.kw W (fun σ H Q => ti σ H fun y H1 => to σ H1 fun x H2 => ∃ a o, x = .ref a ∧ DGet H2 a y o ∧ Q (.bl (if neg then !o.isSome else o.isSome)) H2) (aDIn neg ai ao) := by
  refine fun σ H F S R ρ Q E P T en wo q po => hi σ H F S R ρ _ E _ T en wo q fun v H1 F1 S1 d e1 T1 dv q1 => ?_
  refine ho σ H1 F1 S1 R ρ _ E _ T1 (en.mono e1) (wo.mono e1) q1 fun u H2 F2 S2 e e2 T2 du q2 => ?_
  obtain ⟨m, k, h1, h2, q3⟩ := q2
  obtain ⟨a, l, rfl, rfl, hS, hH, hp, _⟩ := dct_ok T2 du h1
  have ek := keyD_ok (dv.mono e2) h2
  subst ek
  refine ⟨a, _, rfl, DGet.k (k := k) hH, ?_⟩
  have es : (valV l k).isSome = (valA m k).isSome := by
    rcases hp.val (k := k) with ⟨z1, z2⟩ | ⟨d, w', z1, z2, _⟩
    · rw [z1, z2]; rfl
    · rw [z1, z2]; rfl
  rw [es]
  exact po _ H2 F2 S2 _ (e1.trans e2) T2 (.bl _) q3
theorem ta_din {k : Nat} (hr : RoomG k X.A) (hi : EA X W i ti ai) (ho : EA X W o to ao) (hm : behindInMarks .In o = false := by first | rfl | exact nomark _) : TstA X W (.Compare i [.In] [o] pos) (tTest (tDIn ti to)) (aTst (aDIn false ai ao)) :=
  ⟨pt_cmp (pc_din (room1 hr) hi.pe ho.pe) hm, fun σ H F S R ρ Q E P T en wo q po => re_din (neg := false) hi.re ho.re σ H F S R ρ _ E _ T en wo q (re_bl po)⟩
theorem ta_dnotin {k : Nat} (hr : RoomG k X.A) (hi : EA X W i ti ai) (ho : EA X W o to ao) (hm : behindInMarks .NotIn o = false := by first | rfl | exact nomark _) : TstA X W (.Compare i [.NotIn] [o] pos) (tTest (tDNotIn ti to)) (aTst (aDIn true ai ao)) :=
  ⟨pt_cmp (pc_dnotin (room1 hr) hi.pe ho.pe) hm, fun σ H F S R ρ Q E P T en wo q po => re_din (neg := true) hi.re ho.re σ H F S R ρ _ E _ T en wo q (re_bl po)⟩
/-- d[k] = v -/
def aDPut (ao ai av : AE) : AS := fun D ρ S => av ρ S (fun v S1 => ao ρ S1 (fun d S2 => ai ρ S2 (fun e S3 => ∃ a m k, d = .own a ∧ S3 a = some (.dct m) ∧ keyD e = some k ∧ m.length < sizeLine ∧ D.nx ρ (put S3 a (.dct (putKA m k v)))) (D.xx ρ)) (D.xx ρ)) (D.xx ρ)
theorem s_dput {k : Nat} {tv : TE} {av : AE} {value : Expr} (hr : RoomG k X.A) (hv : EA X W value tv av) (ho : EA X W o to ao) (hi : EA X W i ti ai) (hs : swapsWith value (some (.Subscript o i pos')) pos.line X.env = pure false := by rfl) :
    SA X W (.Assign [.Subscript o i pos'] value pos) (sDPut to ti tv) (aDPut ao ai av) := by
  refine ⟨ps_dput (room1 hr) ho.pe hi.pe hv.pe hs, fun σ H F S R ρ Da Dc T en wo dn q => hv.re σ H F S R ρ _ _ _ T en (wo.at_ en) q fun v H1 F1 S1 d e1 T1 dv q1 => ?_⟩
  refine ho.re σ H1 F1 S1 R ρ _ _ _ T1 (en.mono e1) ((wo.at_ en).mono e1) q1 fun x H2 F2 S2 dx e2 T2 dvx q2 => ?_
  have e12 := e1.trans e2
  refine hi.re σ H2 F2 S2 R ρ _ _ _ T2 (en.mono e12) ((wo.at_ en).mono e12) q2 fun y H3 F3 S3 dy e3 T3 dvy q3 => ?_
  obtain ⟨a, m, k, rfl, hS, hk, hz, q4⟩ := q3
  cases dvx
  obtain ⟨_, _, l, hH, hp⟩ := T3.own _ _ hS
  have ek := keyD_ok dvy hk
  subst ek
  refine ⟨a, _, rfl, DPut.k hH (by rw [hp.len]; exact hz), ?_⟩
  refine dn.nx σ _ F3 _ ρ (e12.trans e3) (T3.write (c' := .dct (putKA m k d)) hS ⟨by have := putKA_len m k d; omega, _, upd_same, hp.putK (dv.mono (e2.trans e3))⟩) (en.mono (e12.trans e3)) q4
def aLenD : ON := fun ds S Q => ∃ d m, ds = [d] ∧ dctOf S d = some m ∧ Q (.int (m.length : Nat)) S
theorem c_lenD : CallA X (.builtin "len") (fun xs H Q => ∃ a kvs, xs = [V.ref a] ∧ H a = some (.dK kvs) ∧ Q (.int kvs.length) H) aLenD := by
  refine ⟨call_lenD, ?_⟩
  rintro xs ds H F S R Q P T dvs ⟨d, m, rfl, h1, q⟩ po
  cases dvs with
  | cons h t =>
    cases t
    obtain ⟨a, l, rfl, rfl, hS, hH, hp, _⟩ := dct_ok T h h1
    exact ⟨a, l, rfl, hH, by rw [hp.len]; exact po _ H F S _ (Same.refl _) T (.int _) q⟩
def aListD : ON := fun ds S Q => ∃ d m, ds = [d] ∧ dctOf S d = some m ∧ NewL (m.map fun p => dKey p.1) S Q
/-- x.bit_length() -/
def aBits (ao : AE) : AE := fun ρ S Q E => ao ρ S (onI fun i S1 => Q (.int (Builtin.Int.intBits i : Nat)) S1) E
theorem ea_bits {apos : Pos} (ho : EA X W o to ao) (hbase : attributeBase o "bit_length" X.env (eval o X.env) = eval o X.env := by rfl) (hline : (apos.endLine == pos.line) = true := by rfl) :
    EA X W (.Call (.Attribute o "bit_length" apos) [] [] pos) (tBits to) (aBits ao) := by
  refine ⟨pe_bits ho.pe hbase hline, fun σ H F S R ρ Q E P T en wo q po => ho.re σ H F S R ρ _ E _ T en wo q fun v H1 F1 S1 d e1 T1 dv q1 => ?_⟩
  cases dv with
  | int i => exact ⟨i, rfl, po _ H1 F1 S1 _ e1 T1 (.int _) q1⟩
  | _ => exact (show False from q1).elim
/-- {k: c}, both written constants -/
def aDsp1 (k : Key) (d : D) : AE := fun _ S Q _ => ∀ a, S a = none → Q (.own a) (put S a (.dct [(k, d)]))
end
end A

/-! ## more built-in functions -/
namespace A
open PySem PySem.Spec L2 PyProof.Rows
local macro_rules | `(tactic| walk_at "A.go") => `(tactic| simp only [aSeq, aNext, aSet, aVar, atV_s, onB_b, onI_i, onII_i, onL1_i, onL2_i, it_l, it_t, it_s, it_x, ix_l, ix_t, ix_s, add_i, add_x, eq_i, eq_x, eq_b, is_b, aC, aNil, aCons, aOp, aUn, aTup, aLst, aCB, aNot, aAnd, aOr, aTst, aIfE, aAndV, aOrV, aNotV, aChn, aDrop, aRet, aRetN, aIf, agName, agNil, agCons, agTup, aAsg, aPar, aAug, aFor, aRng1, aRng2, aIter, aLc, aYes,
  aCl, aMt, aMk, aFl, aFst, aNeg, aI2, aI20, aLe, aLt, aGt, aGe, aSub, aMod, aMul, aFdv, aPow, aXor, aShl, aShr, agSub, aoN, aoS, aSl, aRev, aLen, aList, aTupOf, aLRg1, aLRg2, aAbs, aI2N, aMax, aMin, aDm, aAll, aAny, aBM, aApp, aPopAt, aPop, aClear, aRevM, aExt, aRepr, aClD, aLnSt, aIAdd, aBreak, aCont,
  aEnd, startA, List.map_cons, List.map_nil, List.cons_append, List.nil_append, List.length_cons, List.length_nil, List.replicate, List.getElem?_cons_zero, List.getElem?_cons_succ, List.set_cons_zero, List.set_cons_succ, Nat.reduceAdd, Nat.reduceSub, Nat.succ_eq_add_one, Int.reduceAdd, Int.reduceMul,
  reduceIte, Bool.false_eq_true, Bool.not_true, Bool.not_false, ite_true, ite_false])
section
variable {X : Cx}
/-- int(x) of an int or a truth -/
def aInt : ON := fun ds S Q => (∃ i, ds = [.int i] ∧ Q (.int i) S) ∨ ∃ b, ds = [.bl b] ∧ Q (.int (if b then 1 else 0)) S
theorem c_int : CallA X (.type "int") (fun xs H Q => (∃ i, xs = [.int i] ∧ Q (.int i) H) ∨ ∃ k, xs = [.bl k] ∧ Q (.int (if k then 1 else 0)) H) aInt := by
  refine ⟨call_int1, ?_⟩
  rintro xs ds H F S R Q P T dvs (⟨i, rfl, q⟩ | ⟨b, rfl, q⟩) po
  · cases dvs with
    | cons h t => cases t; cases h; exact .inl ⟨i, rfl, po _ H F S _ (Same.refl _) T (.int _) q⟩
  · cases dvs with
    | cons h t => cases t; cases h; exact .inr ⟨b, rfl, po _ H F S _ (Same.refl _) T (.int _) q⟩
/-- str(i) -/
def aStrI : ON := fun ds S Q => ∃ i, ds = [.int i] ∧ i.natAbs.log2 < 1920 ∧ Q (.str (toString i)) S
/-- sum(xs) of ints -/
def aSum : ON := fun ds S Q => ∃ d l ns, ds = [d] ∧ asL S d = some l ∧ intsOf l = some ns ∧ Q (.int ns.sum) S
theorem c_sum (hc : X.calm = true) : CallA X (.builtin "sum") (rSum X.K) aSum := by
  refine ⟨cr_sum hc, ?_⟩
  rintro xs ds H F S R Q P T dvs ⟨d, l, ns, rfl, h1, h2, q⟩ po
  cases dvs with
  | cons h t =>
    cases t
    obtain ⟨a, ys, rfl, h3, h4, _⟩ := asL_ok T h h1
    rw [intsOf_ok h2] at h4
    exact ⟨a, ns, rfl, by rw [← h4.toInts]; exact SqL.of h3, po _ H F S _ (Same.refl _) T (.int _) q⟩
/-- sorted(xs) of ints -/
def aSorted : ON := fun ds S Q => ∃ d l ns, ds = [d] ∧ asL S d = some l ∧ intsOf l = some ns ∧ l.length ≤ sizeLine ∧ ∀ ns' : List Int, ns'.Perm ns → ns'.Pairwise (· ≤ ·) → NewL (ns'.map .int) S Q
theorem c_sorted : CallA X (.builtin "sorted") (rSortedI X.K) aSorted := by
  refine ⟨cr_sortedI, ?_⟩
  rintro xs ds H F S R Q P T dvs ⟨d, l, ns, rfl, h1, h2, hz, q⟩ po
  cases dvs with
  | cons h t =>
    cases t
    obtain ⟨a, ys, rfl, h3, h4, _⟩ := asL_ok T h h1
    rw [intsOf_ok h2] at h4 hz
    rw [List.length_map] at hz
    refine ⟨a, ns, rfl, by rw [← h4.toInts]; exact SqL.of h3, fun ns' p hp hs hn => ?_⟩
    exact newL_ok T (DvL.ints ns') (by rw [List.length_map, hp.length_eq]; exact hz) (q ns' hp hs) po p hn
/-- bool(x) -/
def aBool : ON := fun ds S Q => (∃ i, ds = [.int i] ∧ Q (.bl (i != 0)) S) ∨ ∃ b, ds = [.bl b] ∧ Q (.bl b) S
end
end A

/-! ## x == y by an own __eq__ -/
namespace A
open PySem PySem.Spec L2 PyProof.Rows
local macro_rules | `(tactic| walk_at "A.go") => `(tactic| simp only [aSeq, aNext, aSet, aVar, atV_s, onB_b, onI_i, onII_i, onL1_i, onL2_i, it_l, it_t, it_s, it_x, ix_l, ix_t, ix_s, add_i, add_x, eq_i, eq_x, eq_b, is_b, aC, aNil, aCons, aOp, aUn, aTup, aLst, aCB, aNot, aAnd, aOr, aTst, aIfE, aAndV, aOrV, aNotV, aChn, aDrop, aRet, aRetN, aIf, agName, agNil, agCons, agTup, aAsg, aPar, aAug, aFor, aRng1, aRng2, aIter, aLc, aYes,
  aCl, aMt, aMk, aFl, aFst, aNeg, aI2, aI20, aLe, aLt, aGt, aGe, aSub, aMod, aMul, aFdv, aPow, aXor, aShl, aShr, agSub, aoN, aoS, aSl, aRev, aLen, aList, aTupOf, aLRg1, aLRg2, aAbs, aI2N, aMax, aMin, aDm, aAll, aAny, aBM, aApp, aPopAt, aPop, aClear, aRevM, aExt, aRepr, aClD, aLnSt, aIAdd, aBreak, aCont,
  aEnd, startA, List.map_cons, List.map_nil, List.cons_append, List.nil_append, List.length_cons, List.length_nil, List.replicate, List.getElem?_cons_zero, List.getElem?_cons_succ, List.set_cons_zero, List.set_cons_succ, Nat.reduceAdd, Nat.reduceSub, Nat.succ_eq_add_one, Int.reduceAdd, Int.reduceMul,
  reduceIte, Bool.false_eq_true, Bool.not_true, Bool.not_false, ite_true, ite_false])
structure EqF (P : Program) (w : World) (K : PySem.W.Frag) (mg : Str → Option Value) (base : Heap) (C : Addr) (k : Nat) (sp : SpA) : Prop where
  ex : ∃ f fd ps, PySem.W.findIn K (.ref C) "__eq__" = some (some (.ref f)) ∧ PySem.W.isFn K (.ref f) = true ∧ Binds K fd ps [] ∧ FnA P w K mg base k f fd ps sp
section
variable {X : Cx} {W : WX} {k : Nat} {sp : SpA}
def aEqO (K : PySem.W.Frag) (ok okT : Addr → Prop) (sp : SpA) : O2 := fun d e S Q => ∃ C fs t, insOf S d = some (C, fs) ∧ ok C ∧ tyD S e = some t ∧ (∀ C, t = .ref C → okT C) ∧ PySem.W.notFirst K C t = true ∧ sp [d, e] S (Ret Q) noX
end
end A

/-! ## x != y by an own __eq__ and object's __ne__ -/
namespace A
open PySem PySem.Spec L2 PyProof.Rows
local macro_rules | `(tactic| walk_at "A.go") => `(tactic| simp only [aSeq, aNext, aSet, aVar, atV_s, onB_b, onI_i, onII_i, onL1_i, onL2_i, it_l, it_t, it_s, it_x, ix_l, ix_t, ix_s, add_i, add_x, eq_i, eq_x, eq_b, is_b, aC, aNil, aCons, aOp, aUn, aTup, aLst, aCB, aNot, aAnd, aOr, aTst, aIfE, aAndV, aOrV, aNotV, aChn, aDrop, aRet, aRetN, aIf, agName, agNil, agCons, agTup, aAsg, aPar, aAug, aFor, aRng1, aRng2, aIter, aLc, aYes,
  aCl, aMt, aMk, aFl, aFst, aNeg, aI2, aI20, aLe, aLt, aGt, aGe, aSub, aMod, aMul, aFdv, aPow, aXor, aShl, aShr, agSub, aoN, aoS, aSl, aRev, aLen, aList, aTupOf, aLRg1, aLRg2, aAbs, aI2N, aMax, aMin, aDm, aAll, aAny, aBM, aApp, aPopAt, aPop, aClear, aRevM, aExt, aRepr, aClD, aLnSt, aIAdd, aBreak, aCont,
  aEnd, startA, List.map_cons, List.map_nil, List.cons_append, List.nil_append, List.length_cons, List.length_nil, List.replicate, List.getElem?_cons_zero, List.getElem?_cons_succ, List.set_cons_zero, List.set_cons_succ, Nat.reduceAdd, Nat.reduceSub, Nat.succ_eq_add_one, Int.reduceAdd, Int.reduceMul,
  reduceIte, Bool.false_eq_true, Bool.not_true, Bool.not_false, ite_true, ite_false])
section
variable {prog : Program} {w : World} {A A₀ : Around} {E : Value → Shared → Prop} {s : Shared} {K : PySem.W.Frag} {x C L f : Addr} {h₀ : Heap} {m : Str → Option Value} {ox : Obj} {od : Option Obj} {name : Str} {b tb : Value}
end
end A
namespace A
open PySem PySem.Spec L2 PyProof.Rows
local macro_rules | `(tactic| walk_at "A.go") => `(tactic| simp only [aSeq, aNext, aSet, aVar, atV_s, onB_b, onI_i, onII_i, onL1_i, onL2_i, it_l, it_t, it_s, it_x, ix_l, ix_t, ix_s, add_i, add_x, eq_i, eq_x, eq_b, is_b, aC, aNil, aCons, aOp, aUn, aTup, aLst, aCB, aNot, aAnd, aOr, aTst, aIfE, aAndV, aOrV, aNotV, aChn, aDrop, aRet, aRetN, aIf, agName, agNil, agCons, agTup, aAsg, aPar, aAug, aFor, aRng1, aRng2, aIter, aLc, aYes,
  aCl, aMt, aMk, aFl, aFst, aNeg, aI2, aI20, aLe, aLt, aGt, aGe, aSub, aMod, aMul, aFdv, aPow, aXor, aShl, aShr, agSub, aoN, aoS, aSl, aRev, aLen, aList, aTupOf, aLRg1, aLRg2, aAbs, aI2N, aMax, aMin, aDm, aAll, aAny, aBM, aApp, aPopAt, aPop, aClear, aRevM, aExt, aRepr, aClD, aLnSt, aIAdd, aBreak, aCont,
  aEnd, startA, List.map_cons, List.map_nil, List.cons_append, List.nil_append, List.length_cons, List.length_nil, List.replicate, List.getElem?_cons_zero, List.getElem?_cons_succ, List.set_cons_zero, List.set_cons_succ, Nat.reduceAdd, Nat.reduceSub, Nat.succ_eq_add_one, Int.reduceAdd, Int.reduceMul,
  reduceIte, Bool.false_eq_true, Bool.not_true, Bool.not_false, ite_true, ite_false])
structure NeF (P : Program) (w : World) (K : PySem.W.Frag) (mg : Str → Option Value) (base : Heap) (C : Addr) (k : Nat) (sp : SpA) : Prop where
  eq : EqF P w K mg base C k sp
  ne : PySem.W.findIn K (.ref C) "__ne__" = some (some (.builtin "object.__ne__"))
  ob : PySem.W.subIn K (.ref C) (.type "object") = some true
section
variable {X : Cx} {W : WX} {k : Nat} {sp : SpA}
def aNeO (K : PySem.W.Frag) (ok okT : Addr → Prop) (sp : SpA) : O2 := fun d e S Q => ∃ C fs t, insOf S d = some (C, fs) ∧ ok C ∧ tyD S e = some t ∧ (∀ C, t = .ref C → okT C) ∧ PySem.W.notFirst K C t = true ∧ sp [d, e] S (Ret (onB fun b S' => Q (.bl (!b)) S')) noX
/-! repr(x) by an own __repr__ -/
structure ReprF (P : Program) (w : World) (K : PySem.W.Frag) (mg : Str → Option Value) (base : Heap) (C : Addr) (k : Nat) (sp : SpA) : Prop where
  ex : ∃ f fd ps, PySem.W.findIn K (.ref C) "__repr__" = some (some (.ref f)) ∧ PySem.W.isFn K (.ref f) = true ∧ Binds K fd ps [] ∧ FnA P w K mg base k f fd ps sp
end
end A

/-! ## f-strings: texts, ints, lists and tuples of data -/
namespace A
open PySem PySem.Spec L2 PyProof.Rows
local macro_rules | `(tactic| walk_at "A.go") => `(tactic| simp only [aSeq, aNext, aSet, aVar, atV_s, onB_b, onI_i, onII_i, onL1_i, onL2_i, it_l, it_t, it_s, it_x, ix_l, ix_t, ix_s, add_i, add_x, eq_i, eq_x, eq_b, is_b, aC, aNil, aCons, aOp, aUn, aTup, aLst, aCB, aNot, aAnd, aOr, aTst, aIfE, aAndV, aOrV, aNotV, aChn, aDrop, aRet, aRetN, aIf, agName, agNil, agCons, agTup, aAsg, aPar, aAug, aFor, aRng1, aRng2, aIter, aLc, aYes,
  aCl, aMt, aMk, aFl, aFst, aNeg, aI2, aI20, aLe, aLt, aGt, aGe, aSub, aMod, aMul, aFdv, aPow, aXor, aShl, aShr, agSub, aoN, aoS, aSl, aRev, aLen, aList, aTupOf, aLRg1, aLRg2, aAbs, aI2N, aMax, aMin, aDm, aAll, aAny, aBM, aApp, aPopAt, aPop, aClear, aRevM, aExt, aRepr, aClD, aLnSt, aIAdd, aBreak, aCont,
  aEnd, startA, List.map_cons, List.map_nil, List.cons_append, List.nil_append, List.length_cons, List.length_nil, List.replicate, List.getElem?_cons_zero, List.getElem?_cons_succ, List.set_cons_zero, List.set_cons_succ, Nat.reduceAdd, Nat.reduceSub, Nat.succ_eq_add_one, Int.reduceAdd, Int.reduceMul,
  reduceIte, Bool.false_eq_true, Bool.not_true, Bool.not_false, ite_true, ite_false])
section
variable {X : Cx} {W : WX}
def aFmt (a : AE) : AE := fun ρ S Q E => a ρ S (fun d S1 => (∃ y, d = .str y ∧ y.length ≤ sizeLine ∧ Q (.str y) S1) ∨ (∃ i, d = .int i ∧ i.natAbs.log2 < 1920 ∧ Q (.str (toString i)) S1) ∨
  ∃ n p, n ≤ 60 ∧ rd S1 n d = some p ∧ ((∃ l, p = .list l) ∨ ∃ l, p = .tuple l) ∧ sml p = true ∧ p.weight ≤ 2 ^ 20 ∧ Q (.str p.shown) S1) E
/-- the parts -/
inductive JA (X : Cx) (W : WX) : List Expr → List TE → List AE → Prop where
  | nil : JA X W [] [] []
  | cons {e : Expr} {t : TE} {a : AE} {es : List Expr} {ts : List TE} {as : List AE} (h : EA X W e t a) (r : JA X W es ts as) : JA X W (e :: es) (t :: ts) (a :: as)
def aJs : List AE → Str → AE
  | [], acc => fun _ S Q _ => Q (.str acc) S
  | a :: as, acc => fun ρ S Q E => a ρ S (fun d S1 => ∃ y, d = .str y ∧ (acc ++ y).length ≤ sizeLine ∧ aJs as (acc ++ y) ρ S1 Q E) E
end
end A

/-! ## t[::-1] of a tuple -/
namespace A
open PySem PySem.Spec L2 PyProof.Rows
local macro_rules | `(tactic| walk_at "A.go") => `(tactic| simp only [aSeq, aNext, aSet, aVar, atV_s, onB_b, onI_i, onII_i, onL1_i, onL2_i, it_l, it_t, it_s, it_x, ix_l, ix_t, ix_s, add_i, add_x, eq_i, eq_x, eq_b, is_b, aC, aNil, aCons, aOp, aUn, aTup, aLst, aCB, aNot, aAnd, aOr, aTst, aIfE, aAndV, aOrV, aNotV, aChn, aDrop, aRet, aRetN, aIf, agName, agNil, agCons, agTup, aAsg, aPar, aAug, aFor, aRng1, aRng2, aIter, aLc, aYes,
  aCl, aMt, aMk, aFl, aFst, aNeg, aI2, aI20, aLe, aLt, aGt, aGe, aSub, aMod, aMul, aFdv, aPow, aXor, aShl, aShr, agSub, aoN, aoS, aSl, aRev, aLen, aList, aTupOf, aLRg1, aLRg2, aAbs, aI2N, aMax, aMin, aDm, aAll, aAny, aBM, aApp, aPopAt, aPop, aClear, aRevM, aExt, aRepr, aClD, aLnSt, aIAdd, aBreak, aCont,
  aEnd, startA, List.map_cons, List.map_nil, List.cons_append, List.nil_append, List.length_cons, List.length_nil, List.replicate, List.getElem?_cons_zero, List.getElem?_cons_succ, List.set_cons_zero, List.set_cons_succ, Nat.reduceAdd, Nat.reduceSub, Nat.succ_eq_add_one, Int.reduceAdd, Int.reduceMul,
  reduceIte, Bool.false_eq_true, Bool.not_true, Bool.not_false, ite_true, ite_false])
section
variable {prog : Program} {w : World} {A : Around} {E : Value → Shared → Prop} {s : Shared}
end
section
variable {X : Cx} {W : WX} {e : Expr} {te : TE} {ae : AE} {pos : Pos}
def aRevT (ae : AE) : AE := fun ρ S Q E => ae ρ S (fun d S1 => ∃ ds, d = .tup ds ∧ Q (.tup ds.reverse) S1) E
end
end A

/-! ## isinstance(x, (c1, c2)) -/
namespace A
open PySem PySem.Spec L2 PyProof.Rows
local macro_rules | `(tactic| walk_at "A.go") => `(tactic| simp only [aSeq, aNext, aSet, aVar, atV_s, onB_b, onI_i, onII_i, onL1_i, onL2_i, it_l, it_t, it_s, it_x, ix_l, ix_t, ix_s, add_i, add_x, eq_i, eq_x, eq_b, is_b, aC, aNil, aCons, aOp, aUn, aTup, aLst, aCB, aNot, aAnd, aOr, aTst, aIfE, aAndV, aOrV, aNotV, aChn, aDrop, aRet, aRetN, aIf, agName, agNil, agCons, agTup, aAsg, aPar, aAug, aFor, aRng1, aRng2, aIter, aLc, aYes,
  aCl, aMt, aMk, aFl, aFst, aNeg, aI2, aI20, aLe, aLt, aGt, aGe, aSub, aMod, aMul, aFdv, aPow, aXor, aShl, aShr, agSub, aoN, aoS, aSl, aRev, aLen, aList, aTupOf, aLRg1, aLRg2, aAbs, aI2N, aMax, aMin, aDm, aAll, aAny, aBM, aApp, aPopAt, aPop, aClear, aRevM, aExt, aRepr, aClD, aLnSt, aIAdd, aBreak, aCont,
  aEnd, startA, List.map_cons, List.map_nil, List.cons_append, List.nil_append, List.length_cons, List.length_nil, List.replicate, List.getElem?_cons_zero, List.getElem?_cons_succ, List.set_cons_zero, List.set_cons_succ, Nat.reduceAdd, Nat.reduceSub, Nat.succ_eq_add_one, Int.reduceAdd, Int.reduceMul,
  reduceIte, Bool.false_eq_true, Bool.not_true, Bool.not_false, ite_true, ite_false])
section
variable {X : Cx}
def clsDs : List D → Option (List Value)
  | [] => some []
  | c :: cs => match clsD c, clsDs cs with
    | some u, some us => some (u :: us)
    | _, _ => none
def aIsiT (K : PySem.W.Frag) (ok : Addr → Prop) : ON := fun ds S Q => ∃ d cs t us b, ds = [d, .tup cs] ∧ clsDs cs = some us ∧ tyD S d = some t ∧ (∀ C, t = .ref C → ok C) ∧ PySem.W.kitAny K t us = some b ∧ Q (.bl b) S
end
end A

/-! ## methods that each class has of its own: the promise goes by the class -/
namespace A
open PySem PySem.Spec L2 PyProof.Rows
local macro_rules | `(tactic| walk_at "A.go") => `(tactic| simp only [aSeq, aNext, aSet, aVar, atV_s, onB_b, onI_i, onII_i, onL1_i, onL2_i, it_l, it_t, it_s, it_x, ix_l, ix_t, ix_s, add_i, add_x, eq_i, eq_x, eq_b, is_b, aC, aNil, aCons, aOp, aUn, aTup, aLst, aCB, aNot, aAnd, aOr, aTst, aIfE, aAndV, aOrV, aNotV, aChn, aDrop, aRet, aRetN, aIf, agName, agNil, agCons, agTup, aAsg, aPar, aAug, aFor, aRng1, aRng2, aIter, aLc, aYes,
  aCl, aMt, aMk, aFl, aFst, aNeg, aI2, aI20, aLe, aLt, aGt, aGe, aSub, aMod, aMul, aFdv, aPow, aXor, aShl, aShr, agSub, aoN, aoS, aSl, aRev, aLen, aList, aTupOf, aLRg1, aLRg2, aAbs, aI2N, aMax, aMin, aDm, aAll, aAny, aBM, aApp, aPopAt, aPop, aClear, aRevM, aExt, aRepr, aClD, aLnSt, aIAdd, aBreak, aCont,
  aEnd, startA, List.map_cons, List.map_nil, List.cons_append, List.nil_append, List.length_cons, List.length_nil, List.replicate, List.getElem?_cons_zero, List.getElem?_cons_succ, List.set_cons_zero, List.set_cons_succ, Nat.reduceAdd, Nat.reduceSub, Nat.succ_eq_add_one, Int.reduceAdd, Int.reduceMul,
  reduceIte, Bool.false_eq_true, Bool.not_true, Bool.not_false, ite_true, ite_false])
section
variable {X : Cx} {W : WX} {k : Nat} {ps : List Str} {sp : Addr → SpA} {x m : Str} {p pos apos : Pos} {e o : Expr} {es : List Expr} {t : TA} {ar : AA} {to : TE} {ao : AE}
/-- o.m(e, ..): any of the classes that ok tells -/
def tMtF (K : KW) (W : WX) (ok : Addr → Prop) (m : Str) (sp : Addr → SpA) (to : TE) (t : TA) : TE := fun σ H Q => to σ H fun x H1 => ∃ a C dx gs, x = .ref a ∧ ok C ∧ H1 a = some (.ins C dx gs) ∧ gs.lookup m = none ∧
  t σ H1 fun vs H2 => csp K (sp C) (x :: vs) H2 Q (WE W σ)
def aMtF (ok : Addr → Prop) (m : Str) (sp : Addr → SpA) (ao : AE) (ar : AA) : AE := fun ρ S Q E => ao ρ S (fun d S1 => ∃ C fs, insOf S1 d = some (C, fs) ∧ ok C ∧ fs.lookup m = none ∧ ar ρ S1 (fun ds S2 => sp C (d :: ds) S2 (Ret Q) E) E) E
theorem re_mtF {ok : Addr → Prop} (ho : RE X.kw W to ao) (h : RA X.kw W t ar) : RE X.kw W (tMtF X.kw W ok m sp to t) (aMtF ok m sp ao ar) := fun σ H F S R ρ Q E P T en wo q po =>
  ho σ H F S R ρ _ E _ T en wo q fun v H1 F1 S1 d e1 T1 dv ⟨C, fs, hi, okC, hn, q1⟩ => by
    obtain ⟨a, dx, gs, rfl, rfl, hS, hH, hp⟩ := insOf_ok T1 dv hi
    refine ⟨a, C, dx, gs, rfl, okC, hH, hp.none hn, ?_⟩
    exact h σ H1 F1 S1 R ρ _ E _ T1 (en.mono e1) (wo.mono e1) q1 fun vs H2 F2 S2 ds e2 T2 dvs q2 => csp_ok T2 (wo.mono (e1.trans e2)) (.cons (dv.mono e2) dvs) q2 (po.mono (e1.trans e2))
theorem ea_methF {ok : Addr → Prop} {pl : Sem Bool} (ho : EA X W o to ao) (M : ∀ C, ok C → MF X.prog X.w X.K X.mg X.base C m k ps (sp C)) (hr : RoomG k X.A) (tk : Takes X W) (h : ArA X W (e :: es) t ar)
    (hst : starEach (e :: es) X.env = (false, eval e X.env) :: starEach es X.env := by rfl) (hpl : (backTo pos (starEach es X.env)).any (·.1) = false := by rfl)
    (ht : eval (.Call (.Attribute o m apos) (e :: es) [] pos) X.env = (do
      let ov ← eval o X.env
      standAt apos.atName
      let (f, first) ← holding [ov] (getMethod ov m pl)
      callWith pos f first (backTo pos (starEach (e :: es) X.env)) (backToKw pos (keywordEach [] X.env))) := by rfl) :
    EA X W (.Call (.Attribute o m apos) (e :: es) [] pos) (tMtF X.kw W ok m sp to t) (aMtF ok m sp ao ar) := by
  refine ⟨⟨fun pins s σ H Q I q => ?_⟩, re_mtF ho.re h.ra⟩
  refine PySem.W.methodCall_KW (pl := pl) (thn (ho.pe.run pins s σ H _ I q) fun u s1 ⟨x, H1, I1, rx, a, C, dx, gs, ex, okC, ea, l, q1⟩ => ?_) ht
  subst ex
  cases rx
  have MC := M C okC
  obtain ⟨f, fd, hm, hb, F⟩ := MC.ex
  refine getmeth_ok I1 ea MC.cl hm l ?_
  refine PySem.W.callWith_K (first := [.ref a]) (h₀ := X.base) I.ok.mod.kin hm.kp (thn (h.pa.run pos pins s1 σ H1 _ I1 q1) fun us s2 ⟨vs, H2, I2, r, q2⟩ => ⟨I2.kIn, ?_⟩) hst hpl
  have r2 : Vals (.ref a :: vs) (.ref a :: us) := .cons rfl r
  have hb' := hb s2 (.ref a :: us) I2.kIn (by rw [List.append_nil, ← r2.length]; exact F.g.len _ _ _ _ q2)
  rw [List.append_nil] at hb'
  exact run_g F.g hr tk I2 hb' r2 q2
end
section
variable {X : Cx} {W : WX} {k : Nat} {sp : Addr → SpA}
def aReprF (ok : Addr → Prop) (sp : Addr → SpA) : ON := fun ds S Q => ∃ d C fs, ds = [d] ∧ insOf S d = some (C, fs) ∧ ok C ∧ sp C [d] S (Ret fun v S' => ∃ z, v = .str z ∧ Q (.str z) S') noX
section
variable {P : Program} {w : World} {K : PySem.W.Frag} {mg : Str → Option Value} {base : Heap} {C : Addr} {m : Str} {j k : Nat} {ps : List Str} {sp sp' : SpA}
theorem FnA.imp0 {f : Addr} {fd : FuncData} (F : FnA P w K mg base k f fd ps sp) (h : ∀ ds S Q E, sp' ds S Q E → sp ds S Q E) : FnA P w K mg base k f fd ps sp' :=
  ⟨F.g.imp fun vs H Qc Ec ⟨ds, F, S, R, Q, E, dv, T, q, po, wx⟩ => ⟨ds, F, S, R, Q, E, dv, T, h ds S Q E q, po, wx⟩⟩
theorem MF.imp (M : MF P w K mg base C m j ps sp) (h : j ≤ k) (i : ∀ ds S Q E, sp' ds S Q E → sp ds S Q E) : MF P w K mg base C m k ps sp' := by
  obtain ⟨cl, f, fd, a, b, F⟩ := M
  exact ⟨cl, f, fd, a, b, (F.mono h).imp0 i⟩
theorem ReprF.imp (M : ReprF P w K mg base C j sp) (h : j ≤ k) (i : ∀ ds S Q E, sp' ds S Q E → sp ds S Q E) : ReprF P w K mg base C k sp' := by
  obtain ⟨f, fd, ps, a, b, c, F⟩ := M
  exact ⟨f, fd, ps, a, b, c, (F.mono h).imp0 i⟩
end
end
end A
namespace A
open PySem PySem.Spec L2 PyProof.Rows He
local macro_rules | `(tactic| walk_at "A.go") => `(tactic| simp only [aSeq, aNext, aSet, aVar, atV_s, onB_b, onI_i, onII_i, onL1_i, onL2_i, it_l, it_t, it_s, it_x, ix_l, ix_t, ix_s, add_i, add_x, eq_i, eq_x, eq_b, is_b, aC, aNil, aCons, aOp, aUn, aTup, aLst, aCB, aNot, aAnd, aOr, aTst, aIfE, aAndV, aOrV, aNotV, aChn, aDrop, aRet, aRetN, aIf, agName, agNil, agCons, agTup, aAsg, aPar, aAug, aFor, aRng1, aRng2, aIter, aLc, aYes,
  aCl, aMt, aMk, aFl, aFst, aNeg, aI2, aI20, aLe, aLt, aGt, aGe, aSub, aMod, aMul, aFdv, aPow, aXor, aShl, aShr, agSub, aoN, aoS, aSl, aRev, aLen, aList, aTupOf, aLRg1, aLRg2, aAbs, aI2N, aMax, aMin, aDm, aAll, aAny, aBM, aApp, aPopAt, aPop, aClear, aRevM, aExt, aRepr, aClD, aLnSt, aIAdd, aBreak, aCont,
  aEnd, startA, List.map_cons, List.map_nil, List.cons_append, List.nil_append, List.length_cons, List.length_nil, List.replicate, List.getElem?_cons_zero, List.getElem?_cons_succ, List.set_cons_zero, List.set_cons_succ, Nat.reduceAdd, Nat.reduceSub, Nat.succ_eq_add_one, Int.reduceAdd, Int.reduceMul,
  reduceIte, Bool.false_eq_true, Bool.not_true, Bool.not_false, ite_true, ite_false])
/-- the promise of one of two classes -/
def famS (l : List (Addr × SpA)) (C : Addr) : SpA := fun ds S Q E => ∀ p ∈ l, C = p.1 → p.2 ds S Q E
end A

/-! ## set(xs) of a list of ints, sorted(set) -/
namespace A
open PySem PySem.Spec L2 PyProof.Rows
local macro_rules | `(tactic| walk_at "A.go") => `(tactic| simp only [aSeq, aNext, aSet, aVar, atV_s, onB_b, onI_i, onII_i, onL1_i, onL2_i, it_l, it_t, it_s, it_x, ix_l, ix_t, ix_s, add_i, add_x, eq_i, eq_x, eq_b, is_b, aC, aNil, aCons, aOp, aUn, aTup, aLst, aCB, aNot, aAnd, aOr, aTst, aIfE, aAndV, aOrV, aNotV, aChn, aDrop, aRet, aRetN, aIf, agName, agNil, agCons, agTup, aAsg, aPar, aAug, aFor, aRng1, aRng2, aIter, aLc, aYes,
  aCl, aMt, aMk, aFl, aFst, aNeg, aI2, aI20, aLe, aLt, aGt, aGe, aSub, aMod, aMul, aFdv, aPow, aXor, aShl, aShr, agSub, aoN, aoS, aSl, aRev, aLen, aList, aTupOf, aLRg1, aLRg2, aAbs, aI2N, aMax, aMin, aDm, aAll, aAny, aBM, aApp, aPopAt, aPop, aClear, aRevM, aExt, aRepr, aClD, aLnSt, aIAdd, aBreak, aCont,
  aEnd, startA, List.map_cons, List.map_nil, List.cons_append, List.nil_append, List.length_cons, List.length_nil, List.replicate, List.getElem?_cons_zero, List.getElem?_cons_succ, List.set_cons_zero, List.set_cons_succ, Nat.reduceAdd, Nat.reduceSub, Nat.succ_eq_add_one, Int.reduceAdd, Int.reduceMul,
  reduceIte, Bool.false_eq_true, Bool.not_true, Bool.not_false, ite_true, ite_false])
def frO (w : World) : Obj := { cls := .type "set", dict := none, data := .set #[] 0 (.fresh 0 0 (!w.params.followText "set-order")) }
section
variable {P : Program} {w : World} {A : Around} {E : Value → Shared → Prop} {s : Shared}
def SetDone (w : World) (s0 : Shared) (ns : List Int) (s' : Shared) : Prop :=
  ∃ (h' : Heap) (tk c : Nat), s' = { s0 with heap := h', toks := tk } ∧ SetR w h' s0.heap.objs.size (fun j => decide (j ∈ ns)) c ∧ c ≤ ns.length ∧ ∀ b o, s0.heap.get? b = some o → h'.get? b = some o
theorem call_set_lstI {l : Addr} {xs : Array Value} (ns : List Int) {Q : Value → Shared → Prop} (hA : A.handled = none) (hl : s.heap.IsList l xs) (hx : IntsAre xs.toList ns) (room : ns.length + 1 < scanBound)
    (fin : ∀ s', SetDone w s ns s' → Q (.ref s.heap.objs.size) s') : wpAny (model P w) A (call (.type "set") [.ref l]) Q E s := by
  have zs : xs.size = ns.length := by
    have z := IntsAre.length hx
    rwa [Array.length_toList] at z
  obtain ⟨k1, k2, k3⟩ := F.called_set.mro
  have k4 := F.called_set.made
  have k5 := F.called_set.sub
  refine wpAny_call (codeAny_of_tree ?_)
  show wpAny _ _ (callAny (.type "set") _) _ _ _
  refine wpAny_pure ⟨Code.quiet_builtin _ (by decide +kernel), ?_⟩
  refine codeAny_builtin F.entry_type_call ?_
  rw [Around.under_plain (weight_type_call_type "set" [.ref l] []) (by rfl)]
  have k6 := F.called_set.notType
  have k7 := F.called_set.canCreate
  have k8 := F.typeCall_set_1 (.ref l)
  repeat (any_goals (first | assumption | wp_step ))
  refine codeAny_mono (code_set_led1 (.ref l) (E := E) (Q₁ := fun v z => v = .ref s.heap.objs.size ∧ z = { s with heap := s.heap.push (frO w) }) ⟨rfl, rfl⟩) fun r z hz => ?_
  cases r with
  | error e => exact hz
  | ok fl =>
    cases fl with
    | ret obj =>
      obtain ⟨rfl, rfl⟩ := hz
      have g1 : (s.heap.push (frO w)).get? s.heap.objs.size = some (frO w) := Heap.get?_push_size _ (by rfl)
      have g2 : Shared.TypeIs { s with heap := s.heap.push (frO w) } (.ref s.heap.objs.size) "set" := ⟨_, g1, rfl⟩
      have k9 := F.called_set.init.lookup
      have kb := F.called_set.init.bind (.ref s.heap.objs.size)
      repeat (any_goals (first | assumption | wp_step ))
      refine codeAny_mono (codeAny_call_builtin (R := wants (fun r z => r = .none ∧ SetDone w s ns z) E) F.called_set.init.plain F.entry_set_init (check_set_init_1 g2 ?_)) fun r2 z2 hz2 => ?_
      · have hl0 := hl
        obtain ⟨ol, g3, g4, nl, g5⟩ := hl
        obtain ⟨c1, c2, c3, c4⟩ := ol
        simp only at g4 g5
        subst g4
        subst g5
        have g6 : (s.heap.push (frO w)).get? l = some { cls := .type "list", dict := c2, data := .seq xs nl, slots := c4 } := Heap.get?_push_of_some _ g3
        have m1 := F.sub_list_set
        have m2 := F.sub_list_frozenset
        have m3 : (Value.type "list" == Value.type "dict") = false := by decide
        have g7 : (s.heap.push (frO w)).IsList l xs := ⟨_, g6, rfl, nl, rfl⟩
        unfold Builtin.«set.__init__» noKeywords Builtin.Frozenset.updateFrom
        generalize hPI : pyIter = PI
        wp_walk
        subst hPI
        refine wpAny_pyIter_list g7 ?_
        refine wpAny_bind (wpAny_runValue ?_)
        have lt : l < s.heap.objs.size := Heap.lt_size g3
        have hA3 : A.in1.in1.in1.handled = none := by simp [hA]
        have nI : l ≠ (s.heap.push (frO w)).objs.size := by
          rw [Heap.size_push]
          exact Nat.ne_of_lt (Nat.lt_succ_of_lt lt)
        have nS : s.heap.objs.size ∉ [(s.heap.push (frO w)).objs.size, l] := by
          rw [Heap.size_push]
          simp only [List.mem_cons, List.mem_singleton, List.not_mem_nil, or_false, not_or]
          exact ⟨Nat.ne_of_lt (Nat.lt_succ_self _), Nat.ne_of_gt lt⟩
        have hv : ∀ (i : Nat) (v : Value), xs[i]? = some v → ∃ k t, ns[i]? = some k ∧ v = .int k t := fun i v e => by
          have hi : i < ns.length := by
            rw [← zs]
            exact (Array.getElem?_eq_some_iff.mp e).1
          obtain ⟨t, e2⟩ := PyProof.Rows.IntsAre.int_at hx i v (by rw [Array.getElem?_toList]; exact e)
          refine ⟨ns[i], t, List.getElem?_eq_getElem hi, ?_⟩
          rw [e2, List.getD_eq_getElem?_getD, List.getElem?_eq_getElem hi]
          rfl
        refine set_update_ints ((Walks.list hA3 _ l nI xs).toS) s.heap.objs.size nS ns zs room hv (xs.size - 0) 0 _ (by omega) (Nat.zero_le _) ⟨⟨_, Heap.get?_push_size _ rfl, rfl, rfl⟩, (g7.push _)⟩ ?a0 ?a1
        case a0 =>
          refine ⟨0, Nat.le_refl 0, setR_new_at ?_⟩
          exact Heap.get?_push_of_some _ g1
        case a1 =>
          rintro ⟨h', g, d, tk, os⟩ c mv hc R
          have q1 : g = s.gens := mv.gens
          have q2 : d = s.drawn := mv.drawn
          have q3 : os = s.os := mv.os
          subst q1
          subst q2
          subst q3
          show wpAny _ _ _ _ _ _
          refine wpAny_pure ?_
          show wpAny _ _ (PySem.ret Value.none) _ _ _
          refine wpAny_pure ⟨rfl, h', tk, c, rfl, R, by omega, fun b o e => ?_⟩
          have b0 : b < s.heap.objs.size := Heap.lt_size e
          refine mv.heap b o ?_ (Heap.get?_push_of_some _ (Heap.get?_push_of_some _ e))
          simp only [List.mem_cons, List.mem_singleton, List.not_mem_nil, or_false, not_or]
          refine ⟨Nat.ne_of_lt b0, ?_⟩
          rw [Heap.size_push]
          exact Nat.ne_of_lt (Nat.lt_succ_of_lt b0)
      · cases r2 with
        | error e => exact hz2
        | ok fl2 =>
          cases fl2 with
          | ret r =>
            obtain ⟨rfl, done⟩ := hz2
            repeat (any_goals (first | assumption | wp_step ))
            exact fin _ done
          | _ => exact hz2.elim
    | _ => exact hz.elim
end
section
variable {X : Cx}
theorem setR_list {w : World} {h : Heap} {a : Addr} {S : Int → Bool} {n : Nat} (R : SetR w h a S n) : ∃ l : List Int, l.Nodup ∧ (∀ k, k ∈ l ↔ S k = true) ∧ l.length = n := by
  obtain ⟨o, es, ep, t, _, _, _, _, nd, mem, _, _, sz, _⟩ := R
  exact ⟨es.toList.map keyOf, nd, fun k => (mem k).symm, by rw [List.length_map, Array.length_toList]; exact sz⟩
def rSetLst (K : PySem.W.Frag) (w : World) : List V → Hp → VK → Prop := fun xs H Q => ∃ (a : Addr) (ns : List Int), xs = [V.ref a] ∧ SqL K H a (ns.map V.int) ∧ ns.length ≤ 1000 ∧
  ∀ (p : Addr) (l : List Int), H p = none → l.Nodup → (∀ k, k ∈ l ↔ k ∈ ns) → Q (.ref p) (upd H p (SetO w p (fun i => decide (i ∈ l)) l.length))
theorem cr_setL (hc : X.calm = true) : CallR X (.type "set") (rSetLst X.K X.w) := by
  intro pins s σ H xs us Q I r h
  obtain ⟨a, ns, rfl, hl, hn, q⟩ := h
  rw [Vals.ref1 r]
  obtain ⟨its, rv, pl, _⟩ := I.list hl
  refine call_set_lstI (xs := its.toArray) ns (I.ok.hd hc) pl.isList (by simpa using rv.ints) (by unfold scanBound; omega) fun s' done => ?_
  obtain ⟨h', tk, c, rfl, R, _, k⟩ := done
  obtain ⟨l, nd, mem, ln⟩ := setR_list R
  have mem' : ∀ k, k ∈ l ↔ k ∈ ns := fun k => (mem k).trans decide_eq_true_iff
  have R2 : SetR X.w h' s.heap.objs.size (fun i => decide (i ∈ l)) l.length := by
    rw [ln]
    exact R.congr fun j => by rw [show decide (j ∈ l) = decide (j ∈ ns) from decide_eq_decide.mpr (mem' j)]
  exact ⟨.ref _, upd H s.heap.objs.size (SetO X.w s.heap.objs.size (fun i => decide (i ∈ l)) l.length), I.laid (t' := tk) k (Nat.le_refl _) (setO_new R2), rfl, q _ l (I.hok.fresh (Nat.le_refl _)) nd mem'⟩
def aSetOf : ON := fun ds S Q => ∃ d l ns, ds = [d] ∧ asL S d = some l ∧ intsOf l = some ns ∧ ns.length ≤ 1000 ∧ ∀ l' : List Int, l'.Nodup → (∀ k, k ∈ l' ↔ k ∈ ns) → Q (.set l') S
theorem c_set (hc : X.calm = true) : CallA X (.type "set") (rSetLst X.K X.w) aSetOf := by
  refine ⟨cr_setL hc, ?_⟩
  rintro xs ds H F S R Q P T dvs ⟨d, l, ns, rfl, h1, h2, h3, q⟩ po
  cases dvs with
  | cons h t =>
    cases t
    obtain ⟨a, ys, rfl, g1, g2, _⟩ := asL_ok T h h1
    rw [intsOf_ok h2] at g2
    refine ⟨a, ns, rfl, by rw [← g2.toInts]; exact SqL.of g1, h3, fun p l' hp nd mem => ?_⟩
    obtain ⟨fF, _, _⟩ := T.free hp
    exact po _ _ _ S (.set l') (same_upd fF) (T.frozen hp) (.set upd_same nd) (q l' nd mem)
/-- sorted(x), x a set of ints, of fewer than 64 -/
def aSrtSet : ON := fun ds S Q => ∃ l : List Int, ds = [.set l] ∧ l.length < 64 ∧ ∀ ns : List Int, ns.Pairwise (· < ·) → (∀ k, k ∈ ns ↔ k ∈ l) → NewL (ns.map .int) S Q
theorem c_srtSet (hc : X.calm = true) : CallA X (.builtin "sorted") (rSortedSet X.w) aSrtSet := by
  refine ⟨cr_sortedSet hc, ?_⟩
  rintro xs ds H F S R Q P T dvs ⟨l, rfl, h64, q⟩ po
  cases dvs with
  | cons h t =>
    cases t
    cases h with
    | set hF nd =>
      refine ⟨_, _, l.length, rfl, T.le _ _ hF, h64, fun ns p hs hm hl hn => ?_⟩
      exact newL_ok T (DvL.ints ns) (by rw [List.length_map, hl, sizeLine_eq]; omega) (q ns hs fun k => (hm k).trans decide_eq_true_iff) po p hn
end
end A

/-! ## enumerate, zip, xs * n, xs[i] += e, xs.count(x), x in (a, b) -/
namespace A
open PySem PySem.Spec L2 PyProof.Rows
local macro_rules | `(tactic| walk_at "A.go") => `(tactic| simp only [aSeq, aNext, aSet, aVar, atV_s, onB_b, onI_i, onII_i, onL1_i, onL2_i, it_l, it_t, it_s, it_x, ix_l, ix_t, ix_s, add_i, add_x, eq_i, eq_x, eq_b, is_b, aC, aNil, aCons, aOp, aUn, aTup, aLst, aCB, aNot, aAnd, aOr, aTst, aIfE, aAndV, aOrV, aNotV, aChn, aDrop, aRet, aRetN, aIf, agName, agNil, agCons, agTup, aAsg, aPar, aAug, aFor, aRng1, aRng2, aIter, aLc, aYes,
  aCl, aMt, aMk, aFl, aFst, aNeg, aI2, aI20, aLe, aLt, aGt, aGe, aSub, aMod, aMul, aFdv, aPow, aXor, aShl, aShr, agSub, aoN, aoS, aSl, aRev, aLen, aList, aTupOf, aLRg1, aLRg2, aAbs, aI2N, aMax, aMin, aDm, aAll, aAny, aBM, aApp, aPopAt, aPop, aClear, aRevM, aExt, aRepr, aClD, aLnSt, aIAdd, aBreak, aCont,
  aEnd, startA, List.map_cons, List.map_nil, List.cons_append, List.nil_append, List.length_cons, List.length_nil, List.replicate, List.getElem?_cons_zero, List.getElem?_cons_succ, List.set_cons_zero, List.set_cons_succ, Nat.reduceAdd, Nat.reduceSub, Nat.succ_eq_add_one, Int.reduceAdd, Int.reduceMul,
  reduceIte, Bool.false_eq_true, Bool.not_true, Bool.not_false, ite_true, ite_false])
def enumD (l : List D) : List D := List.zipWith (fun (i : Nat) d => D.tup [.int i, d]) (List.range l.length) l
def zipD (l m : List D) : List D := List.zipWith (fun d e => D.tup [d, e]) l m
theorem enumD_len {l : List D} : (enumD l).length = l.length := by unfold enumD; simp
theorem zipD_len {l m : List D} : (zipD l m).length = min l.length m.length := by unfold zipD; simp
theorem enumD_get {l : List D} {i : Nat} {x : D} (h : (enumD l)[i]? = some x) : ∃ d, l[i]? = some d ∧ x = .tup [.int i, d] := by
  have lt := (List.getElem?_eq_some_iff.mp h).1
  rw [enumD_len] at lt
  refine ⟨l[i], List.getElem?_eq_getElem lt, ?_⟩
  unfold enumD at h
  rw [List.getElem?_zipWith, List.getElem?_range lt, List.getElem?_eq_getElem lt] at h
  exact (Option.some.inj h).symm
theorem zipD_get {l m : List D} {i : Nat} {x : D} (h : (zipD l m)[i]? = some x) : ∃ d e, l[i]? = some d ∧ m[i]? = some e ∧ x = .tup [d, e] := by
  have lt := (List.getElem?_eq_some_iff.mp h).1
  rw [zipD_len] at lt
  have h1 : i < l.length := by omega
  have h2 : i < m.length := by omega
  refine ⟨l[i], m[i], List.getElem?_eq_getElem h1, List.getElem?_eq_getElem h2, ?_⟩
  unfold zipD at h
  rw [List.getElem?_zipWith, List.getElem?_eq_getElem h1, List.getElem?_eq_getElem h2] at h
  exact (Option.some.inj h).symm
theorem two_line : 2 ≤ sizeLine := by rw [sizeLine_eq]; decide
theorem froz_pair {K : KW} {F H : Hp} {S R : Sto} {T : Addr} {x y : V} {d e : D} (st : Sta K F S R H) (n : H T = none) (hx : Dv K F x d) (hy : Dv K F y e) :
    ∃ F2, Same F F2 ∧ Sta K F2 S R (upd H T (.tup [x, y])) ∧ Dv K F2 (.ref T) (.tup [d, e]) := by
  obtain ⟨fF, _, _⟩ := st.free n
  refine ⟨_, same_upd fF, st.frozen n, .tup (SqT.of upd_same) two_line (.cons (hx.mono (same_upd fF)) (.cons (hy.mono (same_upd fF)) .nil))⟩
/-- a list that stays as it is: as data, or as long as it stands so -/
theorem asL_stays {K : KW} {F H : Hp} {S R : Sto} {v : V} {d : D} {l : List D} (st : Sta K F S R H) (dv : Dv K F v d) (h : asL S d = some l) :
    ∃ a, v = .ref a ∧ ∀ F' S' R' H', Same F F' → Sta K F' S' R' H' → asL S' d = some l → ∃ xs, SqL K.K H' a xs ∧ DvL K F' xs l := by
  obtain ⟨a, xs, rfl, h1, h2, _⟩ := asL_ok st dv h
  refine ⟨a, rfl, fun F' S' R' H' e st' h' => ?_⟩
  obtain ⟨b, ys, e2, h3, h4, _⟩ := asL_ok st' (dv.mono e) h'
  cases e2
  exact ⟨ys, SqL.of h3, h4⟩
section
variable {X : Cx} {W : WX} {e e2 : Expr} {t : TA} {ar : AA} {p pos tpos : Pos} {elts : List Expr} {kk : Nat}
def aEnum (ar : AA) : AI := fun ρ S Q E => ar ρ S (fun ds S1 => ∃ d l, ds = [d] ∧ asL S1 d = some l ∧ Q (enumD l) (fun S' => asL S' d = some l) S1) E
theorem i_enum (hm : X.mg "enumerate" = none) (h : ArA X W [e] t ar) (hg : Gl X "enumerate" := by rfl) (hs : starEach [e] X.env = [(false, eval e X.env)] := by rfl) :
    IA X W (.Tuple elts kk tpos) (.Call (.Name "enumerate" p) [e] [] pos) (iEnum X.K t) (aEnum ar) := by
  refine ⟨pi_enum hg hm h.pa hs, fun σ H F S R ρ Q E P T en wo q po => h.ra σ H F S R ρ _ E _ T en wo q fun vs H1 F1 S1 ds e1 T1 dvs q1 => ?_⟩
  obtain ⟨d, l, rfl, hl, q2⟩ := q1
  cases dvs with
  | cons h1 t1 =>
    cases t1
    obtain ⟨b, ys, eb, g1, g2, gz⟩ := asL_ok T1 h1 hl
    obtain ⟨a, ea, sq⟩ := asL_stays T1 h1 hl
    subst ea
    cases eb
    refine ⟨b, ys, rfl, SqL.of g1, po _ H1 F1 S1 _ _ e1 T1 ?_ q2⟩
    refine ⟨by rw [enumD_len]; exact gz, fun F' S' R' H' e T' g => ?_, fun i x F' S' R' H' e T' g hd => ?_, fun i x F' S' R' H' v H2 e T' g hd y => ?_⟩
    · obtain ⟨xs, s1, s2⟩ := sq F' S' R' H' e T' g
      have hl2 := s2.len
      rw [enumD_len, ← hl2]
      exact walk_enum.stops H' s1
    · obtain ⟨xs, s1, s2⟩ := sq F' S' R' H' e T' g
      have lt := (List.getElem?_eq_some_iff.mp hd).1
      rw [enumD_len, ← s2.len] at lt
      exact walk_enum.goes i H' lt s1
    · obtain ⟨xs, s1, s2⟩ := sq F' S' R' H' e T' g
      have lt := (List.getElem?_eq_some_iff.mp hd).1
      rw [enumD_len, ← s2.len] at lt
      obtain ⟨c, u, w, rfl, hn, rfl, eu, ew⟩ := walk_enum.yields i H' v H2 lt s1 y
      obtain ⟨d', hd', rfl⟩ := enumD_get hd
      obtain ⟨w', hw', dw⟩ := s2.getD hd'
      have ew' : xs[i]? = some w := ew
      rw [ew'] at hw'
      cases hw'
      cases eu
      exact froz_pair T' hn (.int _) dw
def aZip (ar : AA) : AI := fun ρ S Q E => ar ρ S (fun ds S1 => ∃ d d2 l m, ds = [d, d2] ∧ asL S1 d = some l ∧ asL S1 d2 = some m ∧ Q (zipD l m) (fun S' => asL S' d = some l ∧ asL S' d2 = some m) S1) E
theorem i_zip (hm : X.mg "zip" = none) (h : ArA X W [e, e2] t ar) (hg : Gl X "zip" := by rfl) (hs : starEach [e, e2] X.env = (false, eval e X.env) :: starEach [e2] X.env := by rfl)
    (hpl : (backTo pos (starEach [e2] X.env)).any (·.1) = false := by rfl) : IA X W (.Tuple elts kk tpos) (.Call (.Name "zip" p) [e, e2] [] pos) (iZip X.K t) (aZip ar) := by
  refine ⟨pi_zip hg hm h.pa hs hpl, fun σ H F S R ρ Q E P T en wo q po => h.ra σ H F S R ρ _ E _ T en wo q fun vs H1 F1 S1 ds e1 T1 dvs q1 => ?_⟩
  obtain ⟨d, d2, l, m, rfl, hl, hm, q2⟩ := q1
  cases dvs with
  | cons h1 t1 =>
    cases t1 with
    | cons h2 t2 =>
      cases t2
      obtain ⟨b, ys, eb, g1, g2, gz⟩ := asL_ok T1 h1 hl
      obtain ⟨b2, ys2, eb2, g12, g22, gz2⟩ := asL_ok T1 h2 hm
      obtain ⟨a, ea, sq⟩ := asL_stays T1 h1 hl
      obtain ⟨a2, ea2, sq2⟩ := asL_stays T1 h2 hm
      subst ea ea2
      cases eb
      cases eb2
      refine ⟨b, b2, ys, ys2, rfl, SqL.of g1, SqL.of g12, po _ H1 F1 S1 _ _ e1 T1 ?_ q2⟩
      refine ⟨by rw [zipD_len]; omega, fun F' S' R' H' e T' g => ?_, fun i x F' S' R' H' e T' g hd => ?_, fun i x F' S' R' H' v H2 e T' g hd y => ?_⟩
      · obtain ⟨xs, s1, s2⟩ := sq F' S' R' H' e T' g.1
        obtain ⟨zs, s3, s4⟩ := sq2 F' S' R' H' e T' g.2
        rw [zipD_len, ← s2.len, ← s4.len]
        exact (walk_zip rfl).stops H' ⟨s1, s3⟩
      · obtain ⟨xs, s1, s2⟩ := sq F' S' R' H' e T' g.1
        obtain ⟨zs, s3, s4⟩ := sq2 F' S' R' H' e T' g.2
        have lt := (List.getElem?_eq_some_iff.mp hd).1
        rw [zipD_len, ← s2.len, ← s4.len] at lt
        exact (walk_zip rfl).goes i H' lt ⟨s1, s3⟩
      · obtain ⟨xs, s1, s2⟩ := sq F' S' R' H' e T' g.1
        obtain ⟨zs, s3, s4⟩ := sq2 F' S' R' H' e T' g.2
        have lt := (List.getElem?_eq_some_iff.mp hd).1
        rw [zipD_len, ← s2.len, ← s4.len] at lt
        obtain ⟨c, u, w, rfl, hn, rfl, eu, ew⟩ := (walk_zip rfl).yields i H' v H2 lt ⟨s1, s3⟩ y
        obtain ⟨d', e', hd', he', rfl⟩ := zipD_get hd
        obtain ⟨u', hu', du⟩ := s2.getD hd'
        obtain ⟨w', hw', dw⟩ := s4.getD he'
        have eu' : xs[i]? = some u := eu
        have ew' : zs[i]? = some w := ew
        rw [eu'] at hu'
        rw [ew'] at hw'
        cases hu'
        cases hw'
        exact froz_pair T' hn du dw
/-- a list times an int; ints' product -/
def aMulL : O2 := fun d e S Q => ∃ l k, asL S d = some l ∧ e = .int k ∧ 0 ≤ k ∧ k ≤ 16777216 ∧ l.length * k.toNat ≤ sizeLine ∧ NewL (List.replicate k.toNat l).flatten S Q
theorem dvl_rep {K : KW} {F : Hp} {xs : List V} {l : List D} (h : DvL K F xs l) : ∀ n : Nat, DvL K F (List.replicate n xs).flatten (List.replicate n l).flatten
  | 0 => .nil
  | n + 1 => by
    rw [List.replicate_succ, List.replicate_succ, List.flatten_cons, List.flatten_cons]
    exact h.append (dvl_rep h n)
theorem rep_len {α : Type} (l : List α) : ∀ n : Nat, (List.replicate n l).flatten.length = n * l.length
  | 0 => by simp
  | n + 1 => by rw [List.replicate_succ, List.flatten_cons, List.length_append, rep_len l n, Nat.succ_mul]; omega
theorem o_mulL : OpA X (binaryOp .Mult) rRep aMulL := by
  refine ⟨op_rep, ?_⟩
  rintro x y d e H F S R Q P T dx dy ⟨l, k, h1, rfl, k0, k16, hz, q⟩ po
  cases dy
  obtain ⟨a, xs, rfl, g1, g2, _⟩ := asL_ok T dx h1
  have hl := g2.len
  refine ⟨a, k, xs, rfl, rfl, g1, by omega, by omega, by rw [hl]; exact hz, newL_ok T (dvl_rep g2 _) (by rw [rep_len, Nat.mul_comm]; exact hz) q po⟩
/-- xs.count(x), ints -/
def aCount : OM := fun d ds S Q => ∃ l ns k, ds = [.int k] ∧ asL S d = some l ∧ intsOf l = some ns ∧ Q (.int (ns.count k : Nat)) S
theorem m_count : MthA X "list.count" (rCntI X.K) aCount := by
  refine ⟨mt_lcount, ?_⟩
  rintro x xs d ds H F S R Q P T dx dvs ⟨l, ns, k, rfl, h1, h2, q⟩ po
  cases dvs with
  | cons h t =>
    cases t
    cases h
    obtain ⟨a, ys, rfl, g1, g2, _⟩ := asL_ok T dx h1
    rw [intsOf_ok h2] at g2
    exact ⟨a, ns, k, rfl, rfl, by rw [← g2.toInts]; exact SqL.of g1, po _ H F S _ (Same.refl _) T (.int _) q⟩
/-- x in (a, b): ints, or texts -/
def aInT (neg : Bool) : O2 := fun d e S Q => (∃ i ns, d = .int i ∧ e = .tup (List.map D.int ns) ∧ Q (.bl (if neg then !decide (i ∈ ns) else decide (i ∈ ns))) S) ∨
  ∃ x zs, d = .str x ∧ e = .tup (List.map D.str zs) ∧ Q (.bl (if neg then !decide (x ∈ zs) else decide (x ∈ zs))) S
theorem inV_ints (i : Int) (ns : List Int) : inV (.int i) (ns.map V.int) = decide (i ∈ ns) := by
  unfold inV
  induction ns with
  | nil => rfl
  | cons a ns ih =>
    rw [List.map_cons, List.any_cons, ih]
    show (a == i || _) = _
    by_cases h : a = i
    · subst h; simp
    · simp [h, Ne.symm h]
theorem inV_strs (x : Str) (zs : List Str) : inV (.str x) (zs.map V.str) = decide (x ∈ zs) := by
  unfold inV
  induction zs with
  | nil => rfl
  | cons a zs ih =>
    rw [List.map_cons, List.any_cons, ih]
    show (a == x || _) = _
    by_cases h : a = x
    · subst h; simp
    · simp [h, Ne.symm h]
theorem inT_ok {K : KW} {neg : Bool} : R2k K (rIn K.K neg) (aInT neg) := by
  rintro x y d e H F S R Q P T dx dy (⟨i, ns, rfl, rfl, q⟩ | ⟨z, zs, rfl, rfl, q⟩) po
  · cases dx
    cases dy with
    | tup h z l =>
      have := l.toInts
      subst this
      refine ⟨_, ns.map V.int, rfl, .inr (SqT.same T.le h), rfl, by simp [flatV], ?_⟩
      rw [inV_ints]
      exact po _ H F S _ (Same.refl _) T (.bl _) q
  · cases dx
    cases dy with
    | tup h z' l =>
      have := l.toStrs
      subst this
      refine ⟨_, zs.map V.str, rfl, .inr (SqT.same T.le h), rfl, by simp [flatV], ?_⟩
      rw [inV_strs]
      exact po _ H F S _ (Same.refl _) T (.bl _) q
theorem o_inT : OpA X (compareOp .In) (rIn X.K false) (aInT false) := ⟨op_in_seq, inT_ok⟩
/-- xs[i] += e -/
def rGetL (K : PySem.W.Frag) : R2 := fun o i H Q => ∃ (p : Addr) (xs : List V) (k : Int) (v : V), o = .ref p ∧ i = .int k ∧ 0 ≤ k ∧ SqL K H p xs ∧ xs[k.toNat]? = some v ∧ Q v H
theorem get_listA : PGet X (rGetL X.K) := by
  intro pins s σ H o i ov iv Q I ro ri h
  obtain ⟨p, xs, k, v, rfl, rfl, k0, hq, he, q⟩ := h
  cases ro
  obtain ⟨t, rfl⟩ := ri
  obtain ⟨its, r, pl, hz⟩ := I.list hq
  obtain ⟨u, eu, ru⟩ := r.get he
  have lt := (List.getElem?_eq_some_iff.mp he).1
  have hn := line63
  have hl := r.length
  have e2 : its.toArray[k.toNat]? = some u := by simpa using eu
  exact wpAny_getItem_list pl.isList k0 (by omega) e2 ⟨v, H, I, ru, q⟩
def aAugS (ao ai ae : AE) (op : O2) : AS := fun D ρ S => ao ρ S (fun o S1 => ai ρ S1 (fun i S2 => ∃ l k x, asL S2 o = some l ∧ i = .int k ∧ 0 ≤ k ∧ l[k.toNat]? = some x ∧
  ae ρ S2 (fun y S3 => op x y S3 fun z S4 => aPut o i z S4 fun S5 => D.nx ρ S5) (D.xx ρ)) (D.xx ρ)) (D.xx ρ)
theorem s_augS {o i e : Expr} {to ti te : TE} {ao ai ae : AE} {op : Operator} {tip : TIp} {a2 : O2} (ho : EA X W o to ao) (hi : EA X W i ti ai) (he : EA X W e te ae) (hp : IpA X op tip a2)
    (ha : ∀ ov iv new, augStore i ov iv new = (do holding [new, ov, iv] (setItem ov iv new); release [new, ov, iv] []; pure .next) := by intros; rfl) :
    SA X W (.AugAssign (.Subscript o i tpos) op e pos) (tAugS to ti te (rGetL X.K) tip L2.rSetL) (aAugS ao ai ae a2) := by
  refine ⟨ps_augS ho.pe hi.pe get_listA he.pe hp.op set_list ha, fun σ H F S R ρ Da Dc T en wo dn q => ho.re σ H F S R ρ _ _ _ T en (wo.at_ en) q fun x1 H1 F1 S1 d1 e1 T1 v1 q1 => ?_⟩
  refine hi.re σ H1 F1 S1 R ρ _ _ _ T1 (en.mono e1) ((wo.at_ en).mono e1) q1 fun x2 H2 F2 S2 d2 e2 T2 v2 q2 => ?_
  obtain ⟨l, k, x, h1, rfl, k0, hx, q3⟩ := q2
  have e12 := e1.trans e2
  obtain ⟨a, xs, rfl, g1, g2, _⟩ := asL_ok T2 (v1.mono e2) h1
  obtain ⟨v, hv, dv⟩ := g2.getD hx
  cases v2
  refine ⟨a, xs, k, v, rfl, rfl, k0, SqL.of g1, hv, he.re σ H2 F2 S2 R ρ _ _ _ T2 (en.mono e12) ((wo.at_ en).mono e12) q3 fun y H3 F3 S3 dy e3 T3 v3 q4 => ?_⟩
  have e13 := e12.trans e3
  refine hp.k v y x dy H3 F3 S3 R _ _ T3 (dv.mono e3) v3 q4 fun z H4 F4 S4 dz e4 T4 v4 q5 => ?_
  have e14 := e13.trans e4
  exact put_ok T4 (v1.mono ((e2.trans e3).trans e4)) (.int k) v4 q5 fun H' S' T5 q6 => dn.nx σ H' F4 S' ρ e14 T5 (en.mono e14) q6
end
end A

/-! ## d.get(k), dict(pairs), dict(d), list(d.items()), xs.remove(k) -/
namespace A
open PySem PySem.Spec L2 PyProof.Rows
local macro_rules | `(tactic| walk_at "A.go") => `(tactic| simp only [aSeq, aNext, aSet, aVar, atV_s, onB_b, onI_i, onII_i, onL1_i, onL2_i, it_l, it_t, it_s, it_x, ix_l, ix_t, ix_s, add_i, add_x, eq_i, eq_x, eq_b, is_b, aC, aNil, aCons, aOp, aUn, aTup, aLst, aCB, aNot, aAnd, aOr, aTst, aIfE, aAndV, aOrV, aNotV, aChn, aDrop, aRet, aRetN, aIf, agName, agNil, agCons, agTup, aAsg, aPar, aAug, aFor, aRng1, aRng2, aIter, aLc, aYes,
  aCl, aMt, aMk, aFl, aFst, aNeg, aI2, aI20, aLe, aLt, aGt, aGe, aSub, aMod, aMul, aFdv, aPow, aXor, aShl, aShr, agSub, aoN, aoS, aSl, aRev, aLen, aList, aTupOf, aLRg1, aLRg2, aAbs, aI2N, aMax, aMin, aDm, aAll, aAny, aBM, aApp, aPopAt, aPop, aClear, aRevM, aExt, aRepr, aClD, aLnSt, aIAdd, aBreak, aCont,
  aEnd, startA, List.map_cons, List.map_nil, List.cons_append, List.nil_append, List.length_cons, List.length_nil, List.replicate, List.getElem?_cons_zero, List.getElem?_cons_succ, List.set_cons_zero, List.set_cons_succ, Nat.reduceAdd, Nat.reduceSub, Nat.succ_eq_add_one, Int.reduceAdd, Int.reduceMul,
  reduceIte, Bool.false_eq_true, Bool.not_true, Bool.not_false, ite_true, ite_false])
section
variable {X : Cx} {W : WX} {o i e : Expr} {to ti te : TE} {ao ai ae : AE} {pos cpos apos p : Pos}
def aDGet (ao ai : AE) : AE := fun ρ S Q E => ao ρ S (fun d S1 => (∃ m, dctOf S1 d = some m) ∧ ai ρ S1 (fun e S2 => ∃ m k, dctOf S2 d = some m ∧ keyD e = some k ∧ Q ((valA m k).getD .non) S2) E) E
/-- xs.remove(k) of ints -/
def aRem : OM := fun d ds S Q => ∃ a ns k j, d = .own a ∧ S a = some (.lst (List.map D.int ns)) ∧ ds = [.int k] ∧ ns[j]? = some k ∧ (∀ m : Nat, m < j → ns[m]? ≠ some k) ∧ Q .non (put S a (.lst (List.map D.int (ns.eraseIdx j))))
/-- pairs of keys and values -/
def kvD (q : Key × D) : D := .tup [dKey q.1, q.2]
def mergeA (m more : List (Key × D)) : List (Key × D) := more.foldl (fun acc q => putKA acc q.1 q.2) m
def aDictP : ON := fun ds S Q => ∃ d m, ds = [d] ∧ asL S d = some (List.map kvD m) ∧ ∀ a, S a = none → Q (.own a) (put S a (.dct (mergeA [] m)))
def aDictD : ON := fun ds S Q => ∃ d m, ds = [d] ∧ dctOf S d = some m ∧ ∀ a, S a = none → Q (.own a) (put S a (.dct m))
/-- list(d.items()) -/
def aListIt (ae : AE) : AE := fun ρ S Q E => ae ρ S (fun d S1 => ∃ m, dctOf S1 d = some m ∧ NewL (m.map kvD) S1 Q) E
end
end A

/-! ## a comprehension over d.items() of one's own dict: the dict is locked meanwhile -/
namespace A
open PySem PySem.Spec L2 PyProof.Rows
local macro_rules | `(tactic| walk_at "A.go") => `(tactic| simp only [aSeq, aNext, aSet, aVar, atV_s, onB_b, onI_i, onII_i, onL1_i, onL2_i, it_l, it_t, it_s, it_x, ix_l, ix_t, ix_s, add_i, add_x, eq_i, eq_x, eq_b, is_b, aC, aNil, aCons, aOp, aUn, aTup, aLst, aCB, aNot, aAnd, aOr, aTst, aIfE, aAndV, aOrV, aNotV, aChn, aDrop, aRet, aRetN, aIf, agName, agNil, agCons, agTup, aAsg, aPar, aAug, aFor, aRng1, aRng2, aIter, aLc, aYes,
  aCl, aMt, aMk, aFl, aFst, aNeg, aI2, aI20, aLe, aLt, aGt, aGe, aSub, aMod, aMul, aFdv, aPow, aXor, aShl, aShr, agSub, aoN, aoS, aSl, aRev, aLen, aList, aTupOf, aLRg1, aLRg2, aAbs, aI2N, aMax, aMin, aDm, aAll, aAny, aBM, aApp, aPopAt, aPop, aClear, aRevM, aExt, aRepr, aClD, aLnSt, aIAdd, aBreak, aCont,
  aEnd, startA, List.map_cons, List.map_nil, List.cons_append, List.nil_append, List.length_cons, List.length_nil, List.replicate, List.getElem?_cons_zero, List.getElem?_cons_succ, List.set_cons_zero, List.set_cons_succ, Nat.reduceAdd, Nat.reduceSub, Nat.succ_eq_add_one, Int.reduceAdd, Int.reduceMul,
  reduceIte, Bool.false_eq_true, Bool.not_true, Bool.not_false, ite_true, ite_false])
def less (F : Hp) (a : Addr) : Hp := fun b => if b = a then none else F b
def delS (S : Sto) (a : Addr) : Sto := fun b => if b = a then none else S b
section
variable {K : KW} {F H : Hp} {S R : Sto} {a : Addr} {o : Obj} {l : List (Key × V)}
theorem less_ne {b : Addr} (h : b ≠ a) : less F a b = F b := if_neg h
theorem less_of {b : Addr} {u : HO} (hF : F a = some (.frz o (.dK l))) (h : F b = some u) (n : ∀ o l, u ≠ .frz o (.dK l)) : less F a b = some u := by
  rw [less_ne (by rintro rfl; rw [hF] at h; cases h; exact n _ _ rfl)]
  exact h
theorem SqL.less_ {K : PySem.W.Frag} {b : Addr} {xs : List V} (hF : F a = some (.frz o (.dK l))) (h : SqL K F b xs) : SqL K (less F a) b xs := by
  rcases h with (h | ⟨o', h⟩) | h
  · exact Or.inl (Or.inl (less_of hF h fun _ _ z => nomatch z))
  · exact Or.inl (Or.inr ⟨o', less_of hF h fun _ _ z => nomatch z⟩)
  · exact Or.inr h
theorem SqT.less_ {K : PySem.W.Frag} {b : Addr} {xs : List V} (hF : F a = some (.frz o (.dK l))) (h : SqT K F b xs) : SqT K (less F a) b xs := by
  rcases h with (h | ⟨o', h⟩) | h
  · exact Or.inl (Or.inl (less_of hF h fun _ _ z => nomatch z))
  · exact Or.inl (Or.inr ⟨o', less_of hF h fun _ _ z => nomatch z⟩)
  · exact Or.inr h
mutual
theorem Dv.less_ (hF : F a = some (.frz o (.dK l))) : ∀ {v : V} {d : D}, Dv K F v d → Dv K (less F a) v d
  | _, _, .non => .non
  | _, _, .bl b => .bl b
  | _, _, .int i => .int i
  | _, _, .str x => .str x
  | _, _, .ty n => .ty n
  | _, _, .own a => .own a
  | _, _, .scr h z => .scr (SqL.less_ hF h) z
  | _, _, .lst h z t => .lst (less_of hF h fun _ _ z => nomatch z) z (DvL.less_ hF t)
  | _, _, .tup h z t => .tup (SqT.less_ hF h) z (DvL.less_ hF t)
  | _, _, .set h n => .set (less_of hF h fun _ _ z => nomatch z) n
  | _, _, .exc h q t => .exc (less_of hF h fun _ _ z => nomatch z) q (DvL.less_ hF t)
  | _, _, .exc0 => .exc0
theorem DvL.less_ (hF : F a = some (.frz o (.dK l))) : ∀ {vs : List V} {ds : List D}, DvL K F vs ds → DvL K (less F a) vs ds
  | _, _, .nil => .nil
  | _, _, .cons h t => .cons (Dv.less_ hF h) (DvL.less_ hF t)
end
theorem DvP.less_ {κ : Type} (hF : F a = Option.some (HO.frz o (HO.dK l))) : ∀ {l' : List (κ × V)} {m : List (κ × D)}, DvP K F l' m → DvP K (less F a) l' m
  | _, _, .nil => .nil
  | _, _, .cons h t => .cons ⟨h.1, h.2.less_ hF⟩ (DvP.less_ hF t)
theorem CellOk.less_ {b : Addr} {c : Cell} {u : HO} (hF : F a = some (.frz o (.dK l))) (hb : b ≠ a) (h : CellOk K F H b c) : CellOk K (less F a) (upd H a u) b c := by
  cases c with
  | lst ds => obtain ⟨z, xs, h1, h2⟩ := h; exact ⟨z, xs, by rw [upd_ne hb]; exact h1, DvL.less_ hF h2⟩
  | dct m => obtain ⟨z, l, h1, h2⟩ := h; exact ⟨z, l, by rw [upd_ne hb]; exact h1, DvP.less_ hF h2⟩
  | ins C fs => obtain ⟨dx, gs, h1, h2⟩ := h; exact ⟨dx, gs, by rw [upd_ne hb]; exact h1, DvP.less_ hF h2⟩
  | pot => obtain ⟨x, y, h1, h2⟩ := h; exact ⟨x, y, by rw [upd_ne hb]; exact h1, h2⟩
  | dtt m => obtain ⟨z, l, h1, h2⟩ := h; exact ⟨z, l, by rw [upd_ne hb]; exact h1, DvP.less_ hF h2⟩
end
section
variable {X : Cx} {W : WX} {elt tg iter : Expr} {ifs : List Expr} {scope : Scope} {own : List (Str × Nat)} {pos : Pos} {wi : TI} {ai : AI} {g : TG} {ag : AG} {tt : TT} {at_ : AT} {te : TE} {ae : AE}
/-- [elt for k, v in o.items() if ..], o one's own dict -/
def aLcIt (ao : AE) (g : AG) (tt : AT) (e : AE) (vs : List Nat) : AE := fun ρ S Q _ => ∃ a m, S a = some (.dct m) ∧ ao ρ (delS S a) (fun x S1 => x = .own a ∧ aLcL g tt e (fun _ => True) (wipeA ρ vs) (fun v S2 => S2 a = none ∧ Q v (put S2 a (.dct m))) (m.map kvD) [] S1) noX
variable {o : Expr} {to : TE} {ao : AE} {apos cpos tpos : Pos} {elts : List Expr} {kk : Nat}
end
end A

namespace A
local macro_rules | `(tactic| walk_at "A.go") => `(tactic| simp only [aSeq, aNext, aSet, aVar, atV_s, onB_b, onI_i, onII_i, onL1_i, onL2_i, it_l, it_t, it_s, it_x, ix_l, ix_t, ix_s, add_i, add_x, eq_i, eq_x, eq_b, is_b, aC, aNil, aCons, aOp, aUn, aTup, aLst, aCB, aNot, aAnd, aOr, aTst, aIfE, aAndV, aOrV, aNotV, aChn, aDrop, aRet, aRetN, aIf, agName, agNil, agCons, agTup, aAsg, aPar, aAug, aFor, aRng1, aRng2, aIter, aLc, aYes,
  aCl, aMt, aMk, aFl, aFst, aNeg, aI2, aI20, aLe, aLt, aGt, aGe, aSub, aMod, aMul, aFdv, aPow, aXor, aShl, aShr, agSub, aoN, aoS, aSl, aRev, aLen, aList, aTupOf, aLRg1, aLRg2, aAbs, aI2N, aMax, aMin, aDm, aAll, aAny, aBM, aApp, aPopAt, aPop, aClear, aRevM, aExt, aRepr, aClD, aLnSt, aIAdd, aBreak, aCont,
  aEnd, startA, List.map_cons, List.map_nil, List.cons_append, List.nil_append, List.length_cons, List.length_nil, List.replicate, List.getElem?_cons_zero, List.getElem?_cons_succ, List.set_cons_zero, List.set_cons_succ, Nat.reduceAdd, Nat.reduceSub, Nat.succ_eq_add_one, Int.reduceAdd, Int.reduceMul,
  reduceIte, Bool.false_eq_true, Bool.not_true, Bool.not_false, ite_true, ite_false])
/-! ## the head's run, looked at in three parts: one declaration for all of them takes twice the memory and more (each look works the end's state out anew) -/
open PySem PySem.W PySem.Calls PyProof.Rows
section
variable (r : PySem.W.OpenRow) (q : Program) (H : PySem.W.Hook) (ob : SharedT → H.α) (M : Nat) (loose : List PySem.Str) (w : World)
noncomputable def endR (os : OsState) : Option SharedT := HandSHeadRun.endF (HandSHeadRun.stepQ (HandSHeadRun.denQ HandSHeadRun.tabQ) r.prog w) M r.prog w os
def Run1 : Prop := ∀ os : OsState, (endR r M w os).map (fun s => HandSHeadRun.looksF r.prog (boot_heap w.params) s.abs) = some true
def Run2 : Prop := ∀ os : OsState, (endR r M w os).map (fun s => HandSHeadRun.seenQ q loose (importedModules r.prog.main.body) (fun s => xlAt q [] s && recOk r.toRowW.records s) s.abs) = some (openGood q loose)
def Run3 : Prop := ∀ os : OsState, (endR r M w os).map ob = some (H.val w)
theorem runEq_of {r : PySem.W.OpenRow} {q : Program} {H : PySem.W.Hook} {ob : SharedT → H.α} {M : Nat} {loose : List PySem.Str} {w : World} (h1 : Run1 r M w) (h2 : Run2 r q M loose w) (h3 : Run3 r H ob M w) : HandSHeadRun.RunEq r q H ob M loose w := by
  intro os
  have a := h1 os
  have b := h2 os
  have c := h3 os
  unfold endR at a b c
  cases e : HandSHeadRun.endF (HandSHeadRun.stepQ (HandSHeadRun.denQ HandSHeadRun.tabQ) r.prog w) M r.prog w os with
  | none => rw [e] at a; cases a
  | some s =>
    rw [e] at a b c
    have a' := Option.some.inj a
    have b' := Option.some.inj b
    have c' := Option.some.inj c
    exact congrArg some (Prod.ext a' (Prod.ext b' c'))
end
end A

namespace A
local macro_rules | `(tactic| walk_at "A.go") => `(tactic| simp only [aSeq, aNext, aSet, aVar, atV_s, onB_b, onI_i, onII_i, onL1_i, onL2_i, it_l, it_t, it_s, it_x, ix_l, ix_t, ix_s, add_i, add_x, eq_i, eq_x, eq_b, is_b, aC, aNil, aCons, aOp, aUn, aTup, aLst, aCB, aNot, aAnd, aOr, aTst, aIfE, aAndV, aOrV, aNotV, aChn, aDrop, aRet, aRetN, aIf, agName, agNil, agCons, agTup, aAsg, aPar, aAug, aFor, aRng1, aRng2, aIter, aLc, aYes,
  aCl, aMt, aMk, aFl, aFst, aNeg, aI2, aI20, aLe, aLt, aGt, aGe, aSub, aMod, aMul, aFdv, aPow, aXor, aShl, aShr, agSub, aoN, aoS, aSl, aRev, aLen, aList, aTupOf, aLRg1, aLRg2, aAbs, aI2N, aMax, aMin, aDm, aAll, aAny, aBM, aApp, aPopAt, aPop, aClear, aRevM, aExt, aRepr, aClD, aLnSt, aIAdd, aBreak, aCont,
  aEnd, startA, List.map_cons, List.map_nil, List.cons_append, List.nil_append, List.length_cons, List.length_nil, List.replicate, List.getElem?_cons_zero, List.getElem?_cons_succ, List.set_cons_zero, List.set_cons_succ, Nat.reduceAdd, Nat.reduceSub, Nat.succ_eq_add_one, Int.reduceAdd, Int.reduceMul,
  reduceIte, Bool.false_eq_true, Bool.not_true, Bool.not_false, ite_true, ite_false])
/-! ## the looked-at part of the heap, grown with a mask of the addresses seen (eraseDups walks the whole list for each address: 5 GB of the kernel's memory) -/
open PySem PySem.Spec L2 PyProof.Rows He
/-- those not yet seen, each once; the mask with them -/
def newsC {α : Type} : List Addr → Nat → List Addr → (List Addr → Nat → α) → α
  | [], m, acc, k => k acc m
  | a :: r, m, acc, k => match Nat.land (Nat.shiftRight m a) 1 with
    | 0 => newsC r (Nat.lor m (Nat.shiftLeft 1 a)) (a :: acc) k
    | _ + 1 => newsC r m acc k
def refsY (g : Addr → Option Obj) (a : Addr) : List Addr := match g a with
  | some o => refsD o
  | none => []
def asYC (g : Addr → Option Obj) : Nat → List Addr → Nat → List Addr → List Addr
  | 0, _, _, all => all
  | n + 1, fr, m, all => newsC (fr.flatMap (refsY g)) m [] fun new m' => asYC g n new m' (all ++ new)
def asY (g : Addr → Option Obj) (n : Nat) : List Addr := newsC [mainGlobals, cStatics] 0 [] fun new m => asYC g n new m new
def obYG (n : Nat) (fc : List Chk) (fn : List DefD) (g : Addr → Option Obj) : AlD := obX fc fn (frG g (asY g n))
def hookY (n : Nat) (fc : List Chk) (fn : List DefD) : PySem.W.Hook where
  α := AlD
  obs := fun q => obYG n fc fn q.heap.get?
  val := fun _ => valD fn
  says := fun _ h => ∃ K : PySem.W.Frag, K.In h ∧ SaysX fc fn K
  of := fun _ _ he => ⟨_, frG_in, he⟩
  keeps := fun _ _ _ ⟨K, hK, z⟩ k => ⟨K, PySem.W.Frag.In.keeps hK k, z⟩
theorem obYG_eq {n : Nat} {fc : List Chk} {fn : List DefD} {g : Addr → Option Obj} {s : Shared} (h : ∀ a, g a = s.heap.get? a) : obYG n fc fn g = (hookY n fc fn).obs s := by
  have z : g = s.heap.get? := funext h
  rw [z]
  rfl
/-- a part of what the hook looks at -/
def RunQ (r : PySem.W.OpenRow) (M : Nat) (w : World) (n : Nat) (fc : List Chk) (fn : List He.DefD) : Prop := ∀ os : OsState, (endR r M w os).map (fun s => obYG n fc fn (HandSHeadRun.getT s)) = some (He.valD fn)
end A

namespace A
open PySem PySem.Spec L2 PyProof.Rows
local macro_rules | `(tactic| walk_at "A.go") => `(tactic| simp only [aSeq, aNext, aSet, aVar, atV_s, onB_b, onI_i, onII_i, onL1_i, onL2_i, it_l, it_t, it_s, it_x, ix_l, ix_t, ix_s, add_i, add_x, eq_i, eq_x, eq_b, is_b, aC, aNil, aCons, aOp, aUn, aTup, aLst, aCB, aNot, aAnd, aOr, aTst, aIfE, aAndV, aOrV, aNotV, aChn, aDrop, aRet, aRetN, aIf, agName, agNil, agCons, agTup, aAsg, aPar, aAug, aFor, aRng1, aRng2, aIter, aLc, aYes,
  aCl, aMt, aMk, aFl, aFst, aNeg, aI2, aI20, aLe, aLt, aGt, aGe, aSub, aMod, aMul, aFdv, aPow, aXor, aShl, aShr, agSub, aoN, aoS, aSl, aRev, aLen, aList, aTupOf, aLRg1, aLRg2, aAbs, aI2N, aMax, aMin, aDm, aAll, aAny, aBM, aApp, aPopAt, aPop, aClear, aRevM, aExt, aRepr, aClD, aLnSt, aIAdd, aBreak, aCont,
  aEnd, startA, List.map_cons, List.map_nil, List.cons_append, List.nil_append, List.length_cons, List.length_nil, List.replicate, List.getElem?_cons_zero, List.getElem?_cons_succ, List.set_cons_zero, List.set_cons_succ, Nat.reduceAdd, Nat.reduceSub, Nat.succ_eq_add_one, Int.reduceAdd, Int.reduceMul,
  reduceIte, Bool.false_eq_true, Bool.not_true, Bool.not_false, ite_true, ite_false])
/-! ### draws -/
def sp_take (K : PySem.W.Frag) : SpA := fun ds S Q E => ∃ p m, ds = [.own p, .int m] ∧ S p = some .pot ∧ 0 < m ∧ m < 2147483648 ∧ ∀ d, 0 ≤ d → d < m → Q (.int d) S
theorem len_take (K : PySem.W.Frag) : ∀ ds S Q E, sp_take K ds S Q E → ds.length = 2 := by rintro ds S Q E ⟨p, m, rfl, _⟩; rfl
def a_take (K : PySem.W.Frag) : AS := (aSeq (aIf (aTst (aOp aGt (aOp aIx (aVar 0) (aC (.int 0))) (aC (.int 0)))) (aSeq (aAsg (aCB aDm (aCons (aOp aIx (aVar 0) (aC (.int 0))) (aCons (aVar 1) aNil))) (agTup 2 (agCons (agSub (aVar 0) (aC (.int 0))) (agCons (agName 2) agNil))))
 (aRet (aVar 2))) aNext)
 (aSeq (aAsg (aOp aMod (aOp aAdd (aOp aMul (aOp aIx (aVar 0) (aC (.int 1))) (aC (.int 48271))) (aC (.int 10007))) (aC (.int 2147483587))) (agSub (aVar 0) (aC (.int 1))))
 (aRet (aOp aMod (aOp aFdv (aOp aMod (aOp aMul (aOp aIx (aVar 0) (aC (.int 1))) (aOp aIx (aVar 0) (aC (.int 1)))) (aC (.int 2147483563))) (aC (.int 3))) (aVar 1)))))
theorem law_take (K : PySem.W.Frag) : ∀ ds S Q E, sp_take K ds S Q E → a_take K (aEnd Q E) (startA ["_law_pot_here", "_law_many", "_law_digit"] ds) S := by
  rintro ds S Q E ⟨p, m, rfl, hp, m0, m1, q⟩
  unfold a_take
  walk_at "A.go"
  refine ix_pot hp fun x y h => ⟨x, rfl, ?_⟩
  walk_at "A.go"
  split
  · rename_i hx
    refine ix_pot hp fun x y h => ⟨x, rfl, ?_⟩
    walk_at "A.go"
    have hm : m.natAbs.log2 < 9000 := Nat.lt_of_lt_of_le (log2_small (k := 31) (by omega) (by decide)) (by decide)
    have h1 := Int.emod_nonneg x (show m ≠ 0 by omega)
    have h2 := Int.emod_lt_of_pos x m0
    have h0 := Int.ediv_nonneg h.1 (Int.le_of_lt m0)
    refine ⟨cdivp m0 hm, _, rfl, rfl, put_pot0 hp h0 ?_ ⟨rfl, ret (q _ h1 h2)⟩⟩
    refine log2_le (n := x.natAbs) ?_ h.2.1
    have h3 : x / m ≤ x := Int.ediv_le_self m h.1
    have h4 := h.1
    omega
  · refine ix_pot hp fun x y h => ⟨y, rfl, ?_⟩
    walk_at "A.go"
    obtain ⟨h1, h2, h3, h4⟩ := h
    have b1 := Int.emod_nonneg (y * 48271 + 10007) (show (2147483587 : Int) ≠ 0 by decide)
    have b2 := Int.emod_lt_of_pos (y * 48271 + 10007) (show (0 : Int) < 2147483587 by decide)
    refine ⟨.inr (by decide), by decide, put_pot1 hp b1 (by omega) (ix_pot hp fun x' y' h' => ⟨y', rfl, ix_pot hp fun x'' y'' h'' => ⟨y'', rfl, ?_⟩⟩)⟩
    walk_at "A.go"
    refine ⟨.inl ?_, by decide, ⟨by decide, by decide⟩, m0, ret (q _ (Int.emod_nonneg _ (by omega)) (Int.emod_lt_of_pos _ m0))⟩
    obtain ⟨_, _, g1, g2⟩ := h'
    exact ⟨by omega, by omega⟩
def sp_pot (K : PySem.W.Frag) : SpA := fun ds S Q E => ∃ ns k, ds = [.scr ns, .int k] ∧ 0 ≤ k ∧ k ≤ 100 ∧ Bits ns ∧ ∀ a, S a = none → Q (.own a) (put S a .pot)
theorem len_pot (K : PySem.W.Frag) : ∀ ds S Q E, sp_pot K ds S Q E → ds.length = 2 := by rintro ds S Q E ⟨p, m, rfl, _⟩; rfl
def a_pot (K : PySem.W.Frag) : AS := (aSeq (aSet 2 (aC (.int 0)))
 (aSeq (aIf (aTst (aOp aLt (aVar 1) (aCB aLen (aCons (aVar 0) aNil)))) (aSet 2 (aCB aAbs (aCons (aOp aIx (aVar 0) (aVar 1)) aNil))) aNext)
 (aRet (aLst (aCons (aCB aMax (aCons (aC (.int 0)) (aCons (aOp aSub (aVar 2) (aOp aPow (aC (.int 10)) (aC (.int 18)))) aNil))) (aCons (aOp aAdd (aOp aMod (aOp aPow (aOp aAdd (aOp aAdd (aOp aMod (aVar 2) (aC (.int 2147483549))) (aOp aMul (aC (.int 97)) (aVar 1))) (aC (.int 1))) (aC (.int 2))) (aC (.int 2147483543))) (aC (.int 1))) aNil))))))
theorem pot_ok {S : Sto} {Q : KD} {c k x : Int} (hc : 0 ≤ c) (hb : c.natAbs.log2 < 2 ^ 20 + 64) (k0 : 0 ≤ k) (k1 : k ≤ 100) (hx : 0 ≤ x ∧ x ≤ c) (q : ∀ a, S a = none → Q (.own a) (put S a .pot)) :
    CMul 97 k ∧ CPow (c % 2147483549 + 97 * k + 1) 2 ∧ (0 : Int) < 2147483543 ∧ 2 ≤ sizeLine ∧ NewL [D.int x, D.int ((c % 2147483549 + 97 * k + 1) ^ Int.toNat 2 % 2147483543 + 1)] S (Ret Q) := by
  have b1 := Int.emod_nonneg c (show (2147483549 : Int) ≠ 0 by decide)
  have b2 := Int.emod_lt_of_pos c (show (0 : Int) < 2147483549 by decide)
  have b3 := Int.emod_nonneg ((c % 2147483549 + 97 * k + 1) ^ Int.toNat 2) (show (2147483543 : Int) ≠ 0 by decide)
  have b4 := Int.emod_lt_of_pos ((c % 2147483549 + 97 * k + 1) ^ Int.toNat 2) (show (0 : Int) < 2147483543 by decide)
  refine ⟨.inl (by decide), ⟨by decide, by decide, by omega⟩, by decide, by rw [sizeLine_eq]; decide, .inr fun a ha => ret_gh (gh_pot put_same ⟨hx.1, log2_le (n := c.natAbs) (by omega) hb, by omega, by omega⟩) ?_⟩
  rw [put_put]
  exact q a ha
theorem law_pot (K : PySem.W.Frag) : ∀ ds S Q E, sp_pot K ds S Q E → a_pot K (aEnd Q E) (startA ["_law_script", "_law_k", "_law_cell"] ds) S := by
  rintro ds S Q E ⟨ns, k, rfl, k0, k1, hb, q⟩
  unfold a_pot
  walk_at "A.go"
  have p18 : CPow 10 18 := ⟨by decide, by decide, by decide⟩
  refine ⟨.scr ns, ns.length, rfl, rfl, ?_⟩
  split
  · rename_i h
    have hk : k < (ns.length : Int) := of_decide_eq_true h
    have hi : ns[k.toNat]? = some (ns[k.toNat]'(by omega)) := List.getElem?_eq_getElem (by omega)
    have hx : atI ns k = some (ns[k.toNat]'(by omega)) := by
      have := atI_nat hi
      rwa [show ((k.toNat : Nat) : Int) = k by omega] at this
    refine ⟨_, hx, p18, trivial, by decide, ?_⟩
    have hb' := hb _ (List.getElem_mem (show k.toNat < ns.length by omega))
    generalize ns[k.toNat]'(by omega) = x at hb' ⊢
    have hp : (0 : Int) < 10 ^ Int.toNat 18 := by decide
    generalize (10 : Int) ^ Int.toNat 18 = t at hp ⊢
    refine pot_ok (c := if x < 0 then -x else x) ?_ ?_ k0 k1 ?_ q
    · split <;> omega
    · exact log2_le (n := x.natAbs) (by split <;> omega) hb'
    · split <;> split <;> omega
  · refine ⟨p18, trivial, by decide, ?_⟩
    have hp : (0 : Int) < 10 ^ Int.toNat 18 := by decide
    generalize (10 : Int) ^ Int.toNat 18 = t at hp ⊢
    refine pot_ok (c := 0) (by decide) (by rw [show (0 : Int).natAbs.log2 = 0 by decide]; exact Nat.succ_pos _) k0 k1 ?_ q
    split <;> omega
/-! ### one of some, an order -/
def sp_shuffled (K : PySem.W.Frag) : SpA := fun ds S Q E => ∃ p d l, ds = [.own p, d] ∧ S p = some .pot ∧ asL S d = some l ∧ l.length ≤ 16777216 ∧ ∀ l', l'.Perm l → Q (.lst l') S
theorem len_shuffled (K : PySem.W.Frag) : ∀ ds S Q E, sp_shuffled K ds S Q E → ds.length = 2 := by rintro ds S Q E ⟨p, d, l, rfl, _⟩; rfl
def a_shuffled (K : PySem.W.Frag) : AS := (aSeq (aSet 2 (aCB aList (aCons (aVar 1) aNil)))
 (aSeq (aSet 3 (aLst aNil))
 (aSeq (aFor (aRng1 (aCons (aCB aLen (aCons (aVar 1) aNil)) aNil)) (agName 4) (aDrop (aBM aApp (aVar 3) (aCons (aBM aPopAt (aVar 2) (aCons (aCl (sp_take K) (aCons (aVar 0) (aCons (aCB aLen (aCons (aVar 2) aNil)) aNil))) aNil)) aNil))))
 (aRet (aVar 3)))))
/-- a store like S but at what was made since -/
theorem sub_but {S S' : Sto} {P : Addr → Prop} (h : ∀ c, ¬ P c → S' c = S c) (n : ∀ c, P c → S c = none) : Sub S S' := fun c x e => by
  by_cases z : P c
  · rw [n c z] at e; cases e
  · rw [h c z]; exact e
theorem atI_ok {α : Type} {l : List α} {i : Int} (h0 : 0 ≤ i) (h1 : i < l.length) : atI l i = some (l[i.toNat]'(by omega)) := by
  have := atI_nat (xs := l) (List.getElem?_eq_getElem (show i.toNat < l.length by omega))
  rwa [show ((i.toNat : Nat) : Int) = i by omega] at this
theorem perm_pick {α : Type} : ∀ (l : List α) (i : Nat) (h : i < l.length), ([l[i]] ++ l.eraseIdx i).Perm l
  | _ :: _, 0, _ => .refl _
  | a :: l, i + 1, h => (List.Perm.swap a _ _).trans ((perm_pick l i (Nat.lt_of_succ_lt_succ h)).cons a)
theorem law_shuffled (K : PySem.W.Frag) : ∀ ds S Q E, sp_shuffled K ds S Q E → a_shuffled K (aEnd Q E) (startA ["_law_pot_here", "_law_some", "_law_left", "_law_found", "_law_k"] ds) S := by
  rintro ds S Q E ⟨p, d, l, rfl, hp, hl, hz, q⟩
  unfold a_shuffled
  walk_at "A.go"
  refine ⟨d, l, rfl, itD_asL hl, .inr fun a ha => ⟨Nat.zero_le _, .inr fun b hb => ?_⟩⟩
  have ab : b ≠ a := by rintro rfl; rw [put_same] at hb; cases hb
  rw [put_ne ab] at hb
  have hS : Sub S (put (put S a (.lst l)) b (.lst [])) := (sub_del ha).put hb
  refine ⟨d, l.length, rfl, lenD_asL (asL_sub hS hl), by omega, by omega, ?_⟩
  refine aLoop_inv (fun i ρ S' => ∃ L M e, ρ = [some (.own p), some d, some (.own a), some (.own b), e] ∧ S' a = some (.lst L) ∧ S' b = some (.lst M) ∧ (∀ c, ¬ (c = a ∨ c = b) → S' c = S c) ∧ (M ++ L).Perm l ∧ M.length = i) ?_ ?_ ?_
  · rintro i z ρ S' nx hi ⟨L, M, e, rfl, ga, gb, gc, hp', hm⟩ hn
    have lt : i < l.length := by
      have := (List.getElem?_eq_some_iff.mp hi).1
      rw [rngD_length] at this
      omega
    have hlen : L.length + i = l.length := by have := hp'.length_eq; rw [List.length_append] at this; omega
    have np : ¬ (p = a ∨ p = b) := by rintro (rfl | rfl) <;> simp_all
    have sp' : S' p = some .pot := by rw [gc p np]; exact hp
    refine ⟨trivial, ?_⟩
    walk_at "A.go"
    refine ⟨⟨M, asL_own gb⟩, ⟨L, asL_own ga⟩, .own a, L.length, rfl, lenD_asL (asL_own ga), p, L.length, rfl, sp', by omega, by omega, fun j j0 j1 => ret ?_⟩
    have hj : L[j.toNat]? = some (L[j.toNat]'(by omega)) := List.getElem?_eq_getElem (by omega)
    refine ⟨a, L, j, j.toNat, _, rfl, ga, rfl, by unfold ixN; rw [if_pos j0, if_pos j1], hj, b, M, _, rfl, by rw [put_ne ab]; exact gb, rfl, by rw [sizeLine_eq]; omega, hn _ _ ⟨L.eraseIdx j.toNat, _, _, rfl, ?_, put_same, ?_, ?_, ?_⟩⟩
    · rw [put_ne (Ne.symm ab), put_same]
    · intro c hc
      rw [put_ne (fun z => hc (.inr z)), put_ne (fun z => hc (.inl z))]
      exact gc c hc
    · refine List.Perm.trans ?_ hp'
      rw [List.append_assoc]
      refine List.Perm.append_left M ?_
      exact perm_pick L j.toNat (by omega)
    · rw [List.length_append, hm]; rfl
  · rintro ρ S' ⟨L, M, e, rfl, ga, gb, gc, hp', hm⟩
    refine ⟨trivial, ?_⟩
    rw [rngD_length] at hm
    have hlen := hp'.length_eq
    rw [List.length_append] at hlen
    have : L = [] := List.eq_nil_of_length_eq_zero (by omega)
    subst this
    rw [List.append_nil] at hp'
    refine ret_freeze (q M hp') (sub_but gc ?_) gb hb
    rintro c (rfl | rfl)
    · exact ha
    · exact hb
  · refine ⟨l, [], none, rfl, ?_, put_same, fun c hc => ?_, .refl _, rfl⟩
    · rw [put_ne (Ne.symm ab), put_same]
    · rw [put_ne (fun z => hc (.inr z)), put_ne (fun z => hc (.inl z))]
end A

namespace A
open PySem PySem.Spec L2 PyProof.Rows
local macro_rules | `(tactic| walk_at "A.go") => `(tactic| simp only [aSeq, aNext, aSet, aVar, atV_s, onB_b, onI_i, onII_i, onL1_i, onL2_i, it_l, it_t, it_s, it_x, ix_l, ix_t, ix_s, add_i, add_x, eq_i, eq_x, eq_b, is_b, aC, aNil, aCons, aOp, aUn, aTup, aLst, aCB, aNot, aAnd, aOr, aTst, aIfE, aAndV, aOrV, aNotV, aChn, aDrop, aRet, aRetN, aIf, agName, agNil, agCons, agTup, aAsg, aPar, aAug, aFor, aRng1, aRng2, aIter, aLc, aYes,
  aCl, aMt, aMk, aFl, aFst, aNeg, aI2, aI20, aLe, aLt, aGt, aGe, aSub, aMod, aMul, aFdv, aPow, aXor, aShl, aShr, agSub, aoN, aoS, aSl, aRev, aLen, aList, aTupOf, aLRg1, aLRg2, aAbs, aI2N, aMax, aMin, aDm, aAll, aAny, aBM, aApp, aPopAt, aPop, aClear, aRevM, aExt, aRepr, aClD, aLnSt, aIAdd, aBreak, aCont,
  aEnd, startA, List.map_cons, List.map_nil, List.cons_append, List.nil_append, List.length_cons, List.length_nil, List.replicate, List.getElem?_cons_zero, List.getElem?_cons_succ, List.set_cons_zero, List.set_cons_succ, Nat.reduceAdd, Nat.reduceSub, Nat.succ_eq_add_one, Int.reduceAdd, Int.reduceMul,
  reduceIte, Bool.false_eq_true, Bool.not_true, Bool.not_false, ite_true, ite_false])
theorem NewL.ret {l : List D} {S : Sto} {Q : KD} (h : NewL l S Q) : NewL l S (Ret Q) := h.elim (fun q => .inl (A.ret q)) fun q => .inr fun a ha => A.ret (q a ha)
theorem atI_map {α β : Type} {l : List α} {f : α → β} {i : Int} {x : α} (h : l[i.toNat]? = some x) (h0 : 0 ≤ i) : atI (l.map f) i = some (f x) := by
  have := atI_nat (xs := l.map f) (j := i.toNat) (v := f x) (by rw [List.getElem?_map, h]; rfl)
  rwa [show ((i.toNat : Nat) : Int) = i by omega] at this
theorem in_ints {S : Sto} {a : Addr} {L : List Int} {i : Int} {neg : Bool} {Q : KD} (h : S a = some (.lst (L.map .int))) (q : Q (.bl (if neg then !decide (i ∈ L) else decide (i ∈ L))) S) : aIn neg (.int i) (.own a) S Q := by
  refine ⟨2, .int i, L.map .int, by decide, rfl, ?_, ?_⟩
  · rw [rd_own h]; exact rd_ints L
  · rw [any_ints]; exact q
theorem rd_asL {S : Sto} {d : D} {l : List D} (n : Nat) (h : asL S d = some l) : rd S (n + 1) d = rd S (n + 1) (.lst l) := by
  cases d with
  | lst m => cases h; rfl
  | own a => exact rd_own (asL_inv h)
  | _ => cases h
theorem smlAll_of : ∀ {l : List PyData}, (∀ x ∈ l, sml x = true) → smlAll l = true
  | [], _ => rfl
  | x :: l, h => by
    simp only [smlAll, h x List.mem_cons_self, smlAll_of fun y hy => h y (List.mem_cons_of_mem _ hy), Bool.and_self]
theorem weightAll_le {B : Nat} : ∀ {l : List PyData}, (∀ x ∈ l, x.weight ≤ B) → PyData.weightAll l ≤ l.length * (B + 1)
  | [], _ => Nat.zero_le _
  | x :: l, h => by
    have h1 := h x List.mem_cons_self
    have h2 := weightAll_le fun y hy => h y (List.mem_cons_of_mem _ hy)
    simp only [PyData.weightAll, List.length_cons]
    rw [Nat.succ_mul]
    omega
end A

/-! ## ties: pieces, as labels -/
namespace A
local macro_rules | `(tactic| walk_at "A.go") => `(tactic| simp only [aSeq, aNext, aSet, aVar, atV_s, onB_b, onI_i, onII_i, onL1_i, onL2_i, it_l, it_t, it_s, it_x, ix_l, ix_t, ix_s, add_i, add_x, eq_i, eq_x, eq_b, is_b, aC, aNil, aCons, aOp, aUn, aTup, aLst, aCB, aNot, aAnd, aOr, aTst, aIfE, aAndV, aOrV, aNotV, aChn, aDrop, aRet, aRetN, aIf, agName, agNil, agCons, agTup, aAsg, aPar, aAug, aFor, aRng1, aRng2, aIter, aLc, aYes,
  aCl, aMt, aMk, aFl, aFst, aNeg, aI2, aI20, aLe, aLt, aGt, aGe, aSub, aMod, aMul, aFdv, aPow, aXor, aShl, aShr, agSub, aoN, aoS, aSl, aRev, aLen, aList, aTupOf, aLRg1, aLRg2, aAbs, aI2N, aMax, aMin, aDm, aAll, aAny, aBM, aApp, aPopAt, aPop, aClear, aRevM, aExt, aRepr, aClD, aLnSt, aIAdd, aBreak, aCont,
  aEnd, startA, List.map_cons, List.map_nil, List.cons_append, List.nil_append, List.length_cons, List.length_nil, List.replicate, List.getElem?_cons_zero, List.getElem?_cons_succ, List.set_cons_zero, List.set_cons_succ, Nat.reduceAdd, Nat.reduceSub, Nat.succ_eq_add_one, Int.reduceAdd, Int.reduceMul,
  reduceIte, Bool.false_eq_true, Bool.not_true, Bool.not_false, ite_true, ite_false])
abbrev Tie := Int × Int
def stepLab (lab : Int → Int) (e : Tie) : Int → Int := fun i => if lab i = lab e.1 then lab e.2 else lab i
def labs (es : List Tie) : Int → Int := es.foldl stepLab fun i => i
theorem labs_snoc (es : List Tie) (e : Tie) : labs (es ++ [e]) = stepLab (labs es) e := by unfold labs; rw [List.foldl_append]; rfl
/-- how many labels the places of L have -/
def cntS (n : Nat) (lab : Int → Int) (L : List Int) : Nat := ((rng n).filter fun x => L.any fun i => decide (lab i = x)).length
def cnt (n : Nat) (lab : Int → Int) : Nat := cntS n lab (rng n)
def InR (n : Nat) (i : Int) : Prop := 0 ≤ i ∧ i < n
def TiesIn (n : Nat) (es : List Tie) : Prop := ∀ e ∈ es, InR n e.1 ∧ InR n e.2
structure Good (n : Nat) (es : List Tie) (lab : Int → Int) : Prop where
  tie : ∀ e ∈ es, lab e.1 = lab e.2
  cls : ∀ P : Int → Prop, (∀ e ∈ es, P e.1 ↔ P e.2) → ∀ i j, InR n i → InR n j → lab i = lab j → P i → P j
  rg : ∀ i, InR n i → InR n (lab i)
theorem step_same {lab : Int → Int} {e : Tie} (h : lab e.1 = lab e.2) : stepLab lab e = lab := by
  funext i
  unfold stepLab
  split
  · rename_i q; rw [q, h]
  · rfl
theorem good_labs {n : Nat} {es : List Tie} (h : TiesIn n es) : Good n es (labs es) := by
  have main : ∀ (k : Nat) (es : List Tie), es.length = k → TiesIn n es → Good n es (labs es) := by
    intro k
    induction k with
    | zero =>
      intro es hk h
      have : es = [] := List.eq_nil_of_length_eq_zero hk
      subst this
      exact ⟨fun e he => (List.not_mem_nil he).elim, fun P hP i j _ _ e p => by cases (show i = j from e); exact p, fun i hi => hi⟩
    | succ k ih =>
      intro es hk h
      obtain ⟨es', e, rfl⟩ : ∃ es' e, es = es' ++ [e] := by
        have hne : es ≠ [] := by rintro rfl; cases hk
        exact ⟨es.dropLast, es.getLast hne, (List.dropLast_concat_getLast hne).symm⟩
      have hk' : es'.length = k := by simpa using hk
      have g := ih es' hk' fun x hx => h x (List.mem_append_left _ hx)
      have he := h e (List.mem_append_right _ List.mem_cons_self)
      rw [labs_snoc]
      generalize labs es' = lab at g ⊢
      refine ⟨fun x hx => ?_, fun P hP i j hi hj q p => ?_, fun i hi => ?_⟩
      · rcases List.mem_append.mp hx with hx | hx
        · unfold stepLab; rw [g.tie x hx]
        · rw [List.mem_singleton.mp hx]
          unfold stepLab
          rw [if_pos rfl]
          split <;> rfl
      · have hP' : ∀ x ∈ es', P x.1 ↔ P x.2 := fun x hx => hP x (List.mem_append_left _ hx)
        have hPe := hP e (List.mem_append_right _ List.mem_cons_self)
        have c := g.cls P hP'
        unfold stepLab at q
        by_cases h1 : lab i = lab e.1
        · have p1 : P e.1 := c i e.1 hi he.1 h1 p
          rw [if_pos h1] at q
          by_cases h2 : lab j = lab e.1
          · exact c e.1 j he.1 hj h2.symm p1
          · rw [if_neg h2] at q
            exact c e.2 j he.2 hj q (hPe.mp p1)
        · rw [if_neg h1] at q
          by_cases h2 : lab j = lab e.1
          · rw [if_pos h2] at q
            have p2 : P e.2 := c i e.2 hi he.2 q p
            exact c e.1 j he.1 hj h2.symm (hPe.mpr p2)
          · rw [if_neg h2] at q
            exact c i j hi hj q p
      · unfold stepLab
        split
        · exact g.rg _ he.2
        · exact g.rg _ hi
  exact main es.length es rfl h
theorem Good.mem {n : Nat} {es es' : List Tie} {lab : Int → Int} (g : Good n es lab) (h : ∀ e, e ∈ es ↔ e ∈ es') : Good n es' lab :=
  ⟨fun e he => g.tie e ((h e).mpr he), fun P hP => g.cls P fun e he => hP e ((h e).mp he), g.rg⟩
theorem mem_rngI {n : Nat} {i : Int} : i ∈ rng n ↔ InR n i := mem_rng
/-! ### counting -/
theorem filter_but {l : List Int} {p q : Int → Bool} {a : Int} (hn : l.Nodup) (ha : a ∈ l) (pa : p a = true) (qa : q a = false) (h : ∀ x ∈ l, x ≠ a → q x = p x) : (l.filter q).length + 1 = (l.filter p).length := by
  induction l with
  | nil => cases ha
  | cons b l ih =>
    have hn' := List.nodup_cons.mp hn
    by_cases e : b = a
    · subst e
      rw [List.filter_cons_of_pos pa, List.filter_cons_of_neg (by rw [qa]; exact Bool.false_ne_true)]
      have : l.filter q = l.filter p := List.filter_congr fun x hx => h x (List.mem_cons_of_mem _ hx) (by rintro rfl; exact hn'.1 hx)
      rw [this, List.length_cons]
    · have ha' : a ∈ l := by rcases List.mem_cons.mp ha with z | z; exact absurd z.symm e; exact z
      have hb := h b List.mem_cons_self e
      have ih' := ih hn'.2 ha' fun x hx => h x (List.mem_cons_of_mem _ hx)
      cases pb : p b with
      | true => rw [List.filter_cons_of_pos pb, List.filter_cons_of_pos (hb.trans pb), List.length_cons, List.length_cons]; omega
      | false => rw [List.filter_cons_of_neg (by rw [hb, pb]; exact Bool.false_ne_true), List.filter_cons_of_neg (by rw [pb]; exact Bool.false_ne_true)]; exact ih'
theorem any_lab {lab : Int → Int} {L : List Int} {x : Int} : (L.any fun i => decide (lab i = x)) = true ↔ ∃ i ∈ L, lab i = x := by
  rw [List.any_eq_true]
  constructor
  · rintro ⟨i, h, e⟩; exact ⟨i, h, of_decide_eq_true e⟩
  · rintro ⟨i, h, e⟩; exact ⟨i, h, decide_eq_true e⟩
theorem bool_iff {a b : Bool} (h : a = true ↔ b = true) : a = b := by cases a <;> cases b <;> simp_all
theorem cnt_union {n : Nat} {lab : Int → Int} {e : Tie} (h1 : InR n e.1) (h2 : InR n e.2) (hr : ∀ i, InR n i → InR n (lab i)) (ne : lab e.1 ≠ lab e.2) : cnt n (stepLab lab e) + 1 = cnt n lab := by
  unfold cnt cntS
  refine filter_but (a := lab e.1) rng_nodup (mem_rngI.mpr (hr _ h1)) (any_lab.mpr ⟨e.1, mem_rngI.mpr h1, rfl⟩) ?_ fun x hx hne => bool_iff ?_
  · refine Bool.eq_false_iff.mpr fun z => ?_
    obtain ⟨i, hi, q⟩ := any_lab.mp z
    unfold stepLab at q
    split at q
    · exact ne q.symm
    · rename_i w; exact w q
  · rw [any_lab, any_lab]
    constructor
    · rintro ⟨i, hi, q⟩
      unfold stepLab at q
      split at q
      · exact ⟨e.2, mem_rngI.mpr h2, q⟩
      · exact ⟨i, hi, q⟩
    · rintro ⟨i, hi, q⟩
      refine ⟨i, hi, ?_⟩
      unfold stepLab
      rw [if_neg (by rw [q]; exact hne)]
      exact q
theorem cnt_id {n : Nat} : cnt n (fun i => i) = n := by
  unfold cnt cntS
  rw [List.filter_eq_self.mpr fun x hx => any_lab.mpr ⟨x, hx, rfl⟩, rng_length]
theorem nodup_le {n : Nat} : ∀ {L : List Int}, L.Nodup → (∀ x ∈ L, InR n x) → L.length ≤ n := by
  have main : ∀ (l m : List Int), l.Nodup → (∀ x ∈ l, x ∈ m) → l.length ≤ m.length := by
    intro l
    induction l with
    | nil => intro m _ _; exact Nat.zero_le _
    | cons a l ih =>
      intro m hn hs
      have hn' := List.nodup_cons.mp hn
      have ha := hs a List.mem_cons_self
      have := ih (m.erase a) hn'.2 fun x hx => (List.mem_erase_of_ne (by rintro rfl; exact hn'.1 hx)).mpr (hs x (List.mem_cons_of_mem _ hx))
      rw [List.length_erase_of_mem ha] at this
      have := List.length_pos_of_mem ha
      rw [List.length_cons]
      omega
  intro L h1 h2
  have := main L (rng n) h1 fun x hx => mem_rngI.mpr (h2 x hx)
  rwa [rng_length] at this
/-! ### union and find -/
structure UF (n : Nat) (vs : List Int) (rt : Int → Int) (dep : Int → Nat) : Prop where
  len : vs.length = n
  up : ∀ i v, InR n i → vs[i.toNat]? = some v → InR n v ∧ rt v = rt i ∧ (v = i ↔ rt i = i) ∧ (v ≠ i → dep v < dep i)
  rg : ∀ i, InR n i → InR n (rt i) ∧ rt (rt i) = rt i
theorem uf_start {n : Nat} : UF n (rng n) (labs []) (fun _ => 0) := by
  refine ⟨rng_length, fun i v hi e => ?_, fun i hi => ⟨hi, rfl⟩⟩
  rw [rng_get (by have := hi.2; have := hi.1; omega)] at e
  cases e
  have : ((i.toNat : Nat) : Int) = i := by have := hi.1; omega
  rw [this]
  exact ⟨hi, rfl, ⟨fun _ => rfl, fun _ => rfl⟩, fun z => absurd rfl z⟩
theorem uf_union {n : Nat} {vs : List Int} {rt : Int → Int} {dep : Int → Nat} {e : Tie} (u : UF n vs rt dep) (h1 : InR n e.1) (h2 : InR n e.2) (ne : rt e.1 ≠ rt e.2) :
    UF n (vs.set (rt e.1).toNat (rt e.2)) (stepLab rt e) (fun i => if rt i = rt e.1 then dep i + 1 else if i = rt e.2 then 0 else dep i + 1) := by
  obtain ⟨r1, f1⟩ := u.rg e.1 h1
  obtain ⟨r2, f2⟩ := u.rg e.2 h2
  generalize ha : rt e.1 = a at ne r1 f1 ⊢
  generalize hb : rt e.2 = b at ne r2 f2 ⊢
  have sl : ∀ i, stepLab rt e i = if rt i = a then b else rt i := fun i => by unfold stepLab; rw [ha, hb]
  have ul := u.len
  refine ⟨by rw [List.length_set]; exact ul, fun i v hi ev => ?_, fun i hi => ?_⟩
  · have i0 := hi.1
    have i1 := hi.2
    have a0 := r1.1
    have a1 := r1.2
    simp only [sl]
    by_cases ia : i = a
    · subst ia
      rw [List.getElem?_set_self (by omega)] at ev
      cases ev
      rw [if_pos f1, f2, if_neg (Ne.symm ne)]
      exact ⟨r2, rfl, ⟨fun z => absurd z.symm ne, fun z => absurd z.symm ne⟩, fun _ => by simp [f1, f2, Ne.symm ne]⟩
    · rw [List.getElem?_set_ne (by omega)] at ev
      obtain ⟨p1, p2, p3, p4⟩ := u.up i v hi ev
      rw [p2]
      refine ⟨p1, rfl, ?_, fun hv => ?_⟩
      · by_cases q : rt i = a
        · rw [if_pos q]
          constructor
          · intro z; exact absurd (p3.mp z) (by rw [q]; exact fun w => ia w.symm)
          · intro z; subst z; exact absurd (q.symm.trans f2) ne
        · rw [if_neg q]; exact p3
      · have lt := p4 hv
        by_cases q : rt i = a
        · rw [if_pos q, if_pos q]; omega
        · rw [if_neg q, if_neg q]
          have ib : i ≠ b := by rintro rfl; exact hv (p3.mpr f2)
          rw [if_neg ib]
          split <;> omega
  · rw [sl, sl]
    obtain ⟨p1, p2⟩ := u.rg i hi
    by_cases q : rt i = a
    · rw [if_pos q, f2, if_neg (Ne.symm ne)]; exact ⟨r2, rfl⟩
    · rw [if_neg q, p2, if_neg q]; exact ⟨p1, rfl⟩
end A

/-! ## rows of bits: sums, and how many are free -/
namespace A
open PySem
local macro_rules | `(tactic| walk_at "A.go") => `(tactic| simp only [aSeq, aNext, aSet, aVar, atV_s, onB_b, onI_i, onII_i, onL1_i, onL2_i, it_l, it_t, it_s, it_x, ix_l, ix_t, ix_s, add_i, add_x, eq_i, eq_x, eq_b, is_b, aC, aNil, aCons, aOp, aUn, aTup, aLst, aCB, aNot, aAnd, aOr, aTst, aIfE, aAndV, aOrV, aNotV, aChn, aDrop, aRet, aRetN, aIf, agName, agNil, agCons, agTup, aAsg, aPar, aAug, aFor, aRng1, aRng2, aIter, aLc, aYes,
  aCl, aMt, aMk, aFl, aFst, aNeg, aI2, aI20, aLe, aLt, aGt, aGe, aSub, aMod, aMul, aFdv, aPow, aXor, aShl, aShr, agSub, aoN, aoS, aSl, aRev, aLen, aList, aTupOf, aLRg1, aLRg2, aAbs, aI2N, aMax, aMin, aDm, aAll, aAny, aBM, aApp, aPopAt, aPop, aClear, aRevM, aExt, aRepr, aClD, aLnSt, aIAdd, aBreak, aCont,
  aEnd, startA, List.map_cons, List.map_nil, List.cons_append, List.nil_append, List.length_cons, List.length_nil, List.replicate, List.getElem?_cons_zero, List.getElem?_cons_succ, List.set_cons_zero, List.set_cons_succ, Nat.reduceAdd, Nat.reduceSub, Nat.succ_eq_add_one, Int.reduceAdd, Int.reduceMul,
  reduceIte, Bool.false_eq_true, Bool.not_true, Bool.not_false, ite_true, ite_false])
def bl (n : Nat) : Nat := if n = 0 then 0 else n.log2 + 1
theorem bl_le {n k : Nat} : bl n ≤ k ↔ n < 2 ^ k := by
  unfold bl
  split
  · rename_i h
    subst h
    exact ⟨fun _ => Nat.pos_of_ne_zero (by simp), fun _ => Nat.zero_le _⟩
  · rename_i h
    rw [← Nat.log2_lt h]
    exact Iff.rfl
theorem bl_top {n j : Nat} (h : bl n = j + 1) : n.testBit j = true ∧ n < 2 ^ (j + 1) := by
  have h1 : n < 2 ^ (j + 1) := bl_le.mp (by omega)
  refine ⟨?_, h1⟩
  cases e : n.testBit j with
  | true => rfl
  | false =>
    have : n < 2 ^ j := Nat.lt_pow_two_of_testBit n fun i hi => by
      by_cases q : i = j
      · rw [q]; exact e
      · exact Nat.testBit_lt_two_pow (Nat.lt_of_lt_of_le h1 (Nat.pow_le_pow_right (by decide) (by omega)))
    have := bl_le.mpr this
    omega
theorem bl_pos {n : Nat} (h : n ≠ 0) : 0 < bl n := by unfold bl; rw [if_neg h]; exact Nat.succ_pos _
theorem bl_zero : bl 0 = 0 := rfl
theorem bl_xor_eq {x y : Nat} (hx : x ≠ 0) (h : bl x = bl y) : bl (x ^^^ y) < bl x := by
  obtain ⟨j, hj⟩ : ∃ j, bl x = j + 1 := ⟨bl x - 1, by have := bl_pos hx; omega⟩
  obtain ⟨a1, a2⟩ := bl_top hj
  obtain ⟨b1, b2⟩ := bl_top (h.symm.trans hj)
  have : x ^^^ y < 2 ^ j := Nat.lt_pow_two_of_testBit _ fun i hi => by
    rw [Nat.testBit_xor]
    by_cases q : i = j
    · rw [q, a1, b1]; rfl
    · have le : 2 ^ (j + 1) ≤ 2 ^ i := Nat.pow_le_pow_right (by decide) (by omega)
      rw [Nat.testBit_lt_two_pow (Nat.lt_of_lt_of_le a2 le), Nat.testBit_lt_two_pow (Nat.lt_of_lt_of_le b2 le)]; rfl
  have := bl_le.mpr this
  omega
theorem bl_xor_lt {x y : Nat} (h : bl x < bl y) : bl (x ^^^ y) = bl y := by
  obtain ⟨j, hj⟩ : ∃ j, bl y = j + 1 := ⟨bl y - 1, by omega⟩
  obtain ⟨b1, b2⟩ := bl_top hj
  have hx : x < 2 ^ j := bl_le.mp (by omega)
  have h1 : x ^^^ y < 2 ^ (j + 1) := Nat.xor_lt_two_pow (Nat.lt_of_lt_of_le hx (Nat.pow_le_pow_right (by decide) (by omega))) b2
  have h2 := bl_le.mpr h1
  by_cases q : bl (x ^^^ y) ≤ j
  · have := Nat.testBit_lt_two_pow (bl_le.mp q)
    rw [Nat.testBit_xor, Nat.testBit_lt_two_pow hx, b1] at this
    cases this
  · omega
theorem bl_xor_gt {x y : Nat} (h : bl y < bl x) : bl (x ^^^ y) = bl x := by rw [Nat.xor_comm]; exact bl_xor_lt h
/-- x is a sum of some of the rows (the last one first) -/
def Spn : List Nat → Nat → Prop
  | [], x => x = 0
  | r :: l, x => Spn l x ∨ Spn l (x ^^^ r)
instance : ∀ (l : List Nat) (x : Nat), Decidable (Spn l x)
  | [], x => inferInstanceAs (Decidable (x = 0))
  | r :: l, x => @instDecidableOr _ _ (instDecidableSpn l x) (instDecidableSpn l (x ^^^ r))
/-- how many rows are no sums of those ahead of them -/
def rk : List Nat → Nat
  | [] => 0
  | r :: l => rk l + if Spn l r then 0 else 1
theorem xor_xor_self (x y : Nat) : x ^^^ y ^^^ y = x := by rw [Nat.xor_assoc, Nat.xor_self, Nat.xor_zero]
theorem spn_zero : ∀ l : List Nat, Spn l 0
  | [] => rfl
  | _ :: l => .inl (spn_zero l)
theorem spn_xor : ∀ {l : List Nat} {x y : Nat}, Spn l x → Spn l y → Spn l (x ^^^ y)
  | [], _, _, hx, hy => by
    have hx : _ = 0 := hx
    have hy : _ = 0 := hy
    subst hx hy
    rfl
  | r :: l, x, y, .inl hx, .inl hy => .inl (spn_xor hx hy)
  | r :: l, x, y, .inl hx, .inr hy => .inr (by rw [Nat.xor_assoc]; exact spn_xor hx hy)
  | r :: l, x, y, .inr hx, .inl hy => .inr (by
      have := spn_xor hx hy
      rwa [Nat.xor_assoc, Nat.xor_comm r y, ← Nat.xor_assoc] at this)
  | r :: l, x, y, .inr hx, .inr hy => .inl (by
      have := spn_xor hx hy
      rwa [Nat.xor_assoc, ← Nat.xor_assoc r y r, Nat.xor_comm r y, xor_xor_self] at this)
theorem spn_back {l : List Nat} {x r : Nat} (h : Spn l (x ^^^ r)) (hr : Spn l r) : Spn l x := by
  have := spn_xor h hr
  rwa [xor_xor_self] at this
theorem spn_lt : ∀ {l : List Nat} {x k : Nat}, (∀ r ∈ l, r < 2 ^ k) → Spn l x → x < 2 ^ k
  | [], x, k, _, h => by
    have h : x = 0 := h
    subst h
    exact Nat.pos_of_ne_zero (by simp)
  | r :: l, x, k, hl, .inl h => spn_lt (fun a ha => hl a (List.mem_cons_of_mem _ ha)) h
  | r :: l, x, k, hl, .inr h => by
    have h1 := spn_lt (fun a ha => hl a (List.mem_cons_of_mem _ ha)) h
    have h2 := Nat.xor_lt_two_pow h1 (hl r List.mem_cons_self)
    rwa [xor_xor_self] at h2
/-- the rows kept, by how many bits they have -/
structure Red (l : List Nat) (fr : List (Nat × Nat)) : Prop where
  nd : (fr.map (·.1)).Nodup
  bit : ∀ p ∈ fr, p.2 ≠ 0 ∧ bl p.2 = p.1 ∧ Spn l p.2
  all : ∀ x, Spn l x → x ≠ 0 → bl x ∈ fr.map (·.1)
  len : fr.length = rk l
theorem red_nil : Red [] [] := ⟨List.nodup_nil, fun _ h => (List.not_mem_nil h).elim, fun x h n => (n h).elim, rfl⟩
/-- a row that came down to 0 is a sum -/
theorem red_sum {l : List Nat} {fr : List (Nat × Nat)} {r : Nat} (R : Red l fr) (h : Spn l r) : Red (r :: l) fr :=
  ⟨R.nd, fun p hp => ⟨(R.bit p hp).1, (R.bit p hp).2.1, .inl (R.bit p hp).2.2⟩, fun x hx n => R.all x (by
    rcases hx with hx | hx
    · exact hx
    · exact spn_back hx h) n, by show _ = rk l + _; rw [if_pos h]; exact R.len⟩
theorem red_new {l : List Nat} {fr : List (Nat × Nat)} {r r' : Nat} (R : Red l fr) (h : Spn l (r ^^^ r')) (n : r' ≠ 0) (hb : bl r' ∉ fr.map (·.1)) : Red (r :: l) (fr ++ [(bl r', r')]) := by
  have hr : ¬ Spn l r := fun z => hb (R.all r' (by
    have := spn_xor h z
    rwa [Nat.xor_comm r r', xor_xor_self] at this) n)
  refine ⟨?_, fun p hp => ?_, fun x hx nx => ?_, ?_⟩
  · rw [List.map_append, List.nodup_append]
    refine ⟨R.nd, by simp, fun a ha b hb' => ?_⟩
    have : b = bl r' := by simpa using hb'
    subst this
    rintro rfl
    exact hb ha
  · rcases List.mem_append.mp hp with hp | hp
    · exact ⟨(R.bit p hp).1, (R.bit p hp).2.1, .inl (R.bit p hp).2.2⟩
    · rw [List.mem_singleton.mp hp]
      exact ⟨n, rfl, .inr (by rw [Nat.xor_comm]; exact h)⟩
  · rw [List.map_append]
    by_cases e : bl x = bl r'
    · rw [e]; exact List.mem_append_right _ (by simp)
    · refine List.mem_append_left _ ?_
      rcases hx with hx | hx
      · exact R.all x hx nx
      · have hx' : Spn l (x ^^^ r') := by
          have := spn_xor hx h
          rwa [Nat.xor_assoc, ← Nat.xor_assoc r r r', Nat.xor_self, Nat.zero_xor] at this
        have nz : x ^^^ r' ≠ 0 := fun z => e (by
          have h9 := xor_xor_self x r'
          rw [z, Nat.zero_xor] at h9
          rw [h9])
        have hm := R.all _ hx' nz
        rcases Nat.lt_or_gt_of_ne e with q | q
        · rw [bl_xor_lt q] at hm; exact (hb hm).elim
        · rw [bl_xor_gt q] at hm; exact hm
  · rw [List.length_append, R.len]
    show _ = rk l + _
    rw [if_neg hr]
    rfl
theorem bits_nat (n : Nat) : Builtin.Int.intBits (n : Int) = bl n := by
  unfold Builtin.Int.intBits bl
  by_cases h : n = 0
  · subst h; rfl
  · rw [if_neg (by simpa using h), if_neg h]
    rfl
theorem xor_nat (x y : Nat) : Builtin.bitXor (x : Int) (y : Int) = ((x ^^^ y : Nat) : Int) := Bits.bitXor_pp (Int.natCast_nonneg _) (Int.natCast_nonneg _)
end A

/-! ## seats: who sits where, and the least bound -/
namespace A
local macro_rules | `(tactic| walk_at "A.go") => `(tactic| simp only [aSeq, aNext, aSet, aVar, atV_s, onB_b, onI_i, onII_i, onL1_i, onL2_i, it_l, it_t, it_s, it_x, ix_l, ix_t, ix_s, add_i, add_x, eq_i, eq_x, eq_b, is_b, aC, aNil, aCons, aOp, aUn, aTup, aLst, aCB, aNot, aAnd, aOr, aTst, aIfE, aAndV, aOrV, aNotV, aChn, aDrop, aRet, aRetN, aIf, agName, agNil, agCons, agTup, aAsg, aPar, aAug, aFor, aRng1, aRng2, aIter, aLc, aYes,
  aCl, aMt, aMk, aFl, aFst, aNeg, aI2, aI20, aLe, aLt, aGt, aGe, aSub, aMod, aMul, aFdv, aPow, aXor, aShl, aShr, agSub, aoN, aoS, aSl, aRev, aLen, aList, aTupOf, aLRg1, aLRg2, aAbs, aI2N, aMax, aMin, aDm, aAll, aAny, aBM, aApp, aPopAt, aPop, aClear, aRevM, aExt, aRepr, aClD, aLnSt, aIAdd, aBreak, aCont,
  aEnd, startA, List.map_cons, List.map_nil, List.cons_append, List.nil_append, List.length_cons, List.length_nil, List.replicate, List.getElem?_cons_zero, List.getElem?_cons_succ, List.set_cons_zero, List.set_cons_succ, Nat.reduceAdd, Nat.reduceSub, Nat.succ_eq_add_one, Int.reduceAdd, Int.reduceMul,
  reduceIte, Bool.false_eq_true, Bool.not_true, Bool.not_false, ite_true, ite_false])
theorem sub_len : ∀ {l m : List Int}, l.Nodup → (∀ x ∈ l, x ∈ m) → l.length ≤ m.length
  | [], _, _, _ => Nat.zero_le _
  | a :: l, m, hn, hs => by
    have hn' := List.nodup_cons.mp hn
    have ha := hs a List.mem_cons_self
    have := sub_len (l := l) (m := m.erase a) hn'.2 fun x hx => (List.mem_erase_of_ne (by rintro rfl; exact hn'.1 hx)).mpr (hs x (List.mem_cons_of_mem _ hx))
    rw [List.length_erase_of_mem ha] at this
    have := List.length_pos_of_mem ha
    rw [List.length_cons]
    omega
theorem sub_full {l m : List Int} (hl : l.Nodup) (h : ∀ x ∈ l, x ∈ m) (z : m.length ≤ l.length) : ∀ x ∈ m, x ∈ l := fun x hx => by
  by_cases hc : x ∈ l
  · exact hc
  · have := sub_len (l := x :: l) (m := m) (List.nodup_cons.mpr ⟨hc, hl⟩) fun y hy => by
      rcases List.mem_cons.mp hy with rfl | hy
      · exact hx
      · exact h y hy
    rw [List.length_cons] at this
    omega
theorem min_ex (P : Nat → Prop) (h : ∃ n, P n) : ∃ n, P n ∧ ∀ m, P m → n ≤ m := by
  obtain ⟨n, hn⟩ := h
  induction n using Nat.strongRecOn with
  | ind n ih =>
    by_cases q : ∃ m, m < n ∧ P m
    · obtain ⟨m, lt, pm⟩ := q
      exact ih m lt pm
    · exact ⟨n, hn, fun m pm => Nat.le_of_not_lt fun lt => q ⟨m, lt, pm⟩⟩
def inT (T l : List Int) : Bool := l.all fun s => decide (s ∈ T)
theorem inT_iff {T l : List Int} : inT T l = true ↔ ∀ s ∈ l, s ∈ T := by unfold inT; simp
/-- the seats T, and the rows that aren't within them -/
def bd (Rs : List (List Int)) (T : List Int) : Nat := T.length + (Rs.filter fun r => !inT T r).length
noncomputable def worthS (Rs : List (List Int)) : Nat := Classical.choose (min_ex (fun v => ∃ T : List Int, T.Nodup ∧ v = bd Rs T) ⟨_, [], List.nodup_nil, rfl⟩)
theorem worthS_spec (Rs : List (List Int)) : (∃ T : List Int, T.Nodup ∧ worthS Rs = bd Rs T) ∧ ∀ T : List Int, T.Nodup → worthS Rs ≤ bd Rs T := by
  have h := Classical.choose_spec (min_ex (fun v => ∃ T : List Int, T.Nodup ∧ v = bd Rs T) ⟨_, [], List.nodup_nil, rfl⟩)
  exact ⟨h.1, fun T hT => h.2 _ ⟨T, hT, rfl⟩⟩
theorem worthS_is {Rs : List (List Int)} {v : Nat} {T : List Int} (hT : T.Nodup) (e : v = bd Rs T) (h : ∀ T : List Int, T.Nodup → v ≤ bd Rs T) : worthS Rs = v := by
  obtain ⟨⟨T', h1, h2⟩, h3⟩ := worthS_spec Rs
  have a := h3 T hT
  have b := h T' h1
  omega
theorem bd_perm {Rs Rs' : List (List Int)} (h : Rs.Perm Rs') (T : List Int) : bd Rs T = bd Rs' T := by
  unfold bd
  rw [(h.filter _).length_eq]
theorem worthS_perm {Rs Rs' : List (List Int)} (h : Rs.Perm Rs') : worthS Rs = worthS Rs' := by
  obtain ⟨⟨T, h1, h2⟩, h3⟩ := worthS_spec Rs'
  exact worthS_is h1 (by rw [h2, bd_perm h]) fun T hT => by rw [bd_perm h]; exact h3 T hT
theorem bd_cons {Rs : List (List Int)} {r T : List Int} : bd (r :: Rs) T = bd Rs T + if inT T r then 0 else 1 := by
  unfold bd
  rw [List.filter_cons]
  cases inT T r with
  | true => simp
  | false => simp; omega
abbrev Mt := List (Int × Int)
structure MOk (row : Int → List Int) (H : List Int) (M : Mt) : Prop where
  kn : (M.map (·.1)).Nodup
  vn : (M.map (·.2)).Nodup
  ok : ∀ p ∈ M, p.2 ∈ H ∧ p.1 ∈ row p.2
theorem filter_split {α : Type} (p : α → Bool) : ∀ l : List α, l.length = (l.filter p).length + (l.filter fun x => !p x).length
  | [] => rfl
  | a :: l => by
    have ih := filter_split p l
    rw [List.filter_cons, List.filter_cons]
    cases h : p a with
    | true => simp; omega
    | false => simp; omega
theorem nodup_map_filter {α β : Type} {f : α → β} {l : List α} {p : α → Bool} (h : (l.map f).Nodup) : ((l.filter p).map f).Nodup := h.sublist (List.Sublist.map f List.filter_sublist)
section
variable {row : Int → List Int} {H : List Int} {M : Mt}
def iT (T : List Int) : Int × Int → Bool := fun p => decide (p.1 ∈ T)
theorem part1 (m : MOk row H M) (T : List Int) : (M.filter (iT T)).length ≤ T.length := by
  have := sub_len (l := (M.filter (iT T)).map (·.1)) (m := T) (nodup_map_filter m.kn) fun x hx => by
    obtain ⟨p, hp, rfl⟩ := List.mem_map.mp hx
    exact of_decide_eq_true (List.mem_filter.mp hp).2
  rwa [List.length_map] at this
theorem part2 (m : MOk row H M) (T : List Int) : ((M.filter fun p => !iT T p).length) ≤ (H.filter fun t => !inT T (row t)).length := by
  have := sub_len (l := (M.filter fun p => !iT T p).map (·.2)) (m := H.filter fun t => !inT T (row t)) (nodup_map_filter m.vn) fun x hx => by
    obtain ⟨p, hp, rfl⟩ := List.mem_map.mp hx
    obtain ⟨h1, h2⟩ := List.mem_filter.mp hp
    obtain ⟨g1, g2⟩ := m.ok p h1
    refine List.mem_filter.mpr ⟨g1, ?_⟩
    cases e : inT T (row p.2) with
    | false => rfl
    | true =>
      have := inT_iff.mp e p.1 g2
      unfold iT at h2
      rw [decide_eq_true this] at h2
      cases h2
  rwa [List.length_map] at this
theorem bd_map {T : List Int} : bd (H.map row) T = T.length + (H.filter fun t => !inT T (row t)).length := by
  unfold bd
  rw [List.filter_map, List.length_map]
  rfl
theorem ub (m : MOk row H M) (T : List Int) : M.length ≤ bd (H.map row) T := by
  rw [bd_map, filter_split (iT T) M]
  have := part1 m T
  have := part2 m T
  omega
theorem tight1 (m : MOk row H M) {T : List Int} (h : M.length = bd (H.map row) T) : ∀ s ∈ T, ∃ a, (s, a) ∈ M := fun s hs => by
  rw [bd_map, filter_split (iT T) M] at h
  have h1 := part1 m T
  have h2 := part2 m T
  have := sub_full (l := (M.filter (iT T)).map (·.1)) (m := T) (nodup_map_filter m.kn) (fun x hx => by
    obtain ⟨p, hp, rfl⟩ := List.mem_map.mp hx
    exact of_decide_eq_true (List.mem_filter.mp hp).2) (by rw [List.length_map]; omega) s hs
  obtain ⟨p, hp, rfl⟩ := List.mem_map.mp this
  exact ⟨p.2, (List.mem_filter.mp hp).1⟩
theorem tight2 (m : MOk row H M) {T : List Int} (h : M.length = bd (H.map row) T) : ∀ a ∈ H, inT T (row a) = false → ∃ s, (s, a) ∈ M ∧ s ∉ T := fun a ha e => by
  rw [bd_map, filter_split (iT T) M] at h
  have h1 := part1 m T
  have h2 := part2 m T
  have := sub_full (l := (M.filter fun p => !iT T p).map (·.2)) (m := H.filter fun t => !inT T (row t)) (nodup_map_filter m.vn) (fun x hx => by
    obtain ⟨p, hp, rfl⟩ := List.mem_map.mp hx
    obtain ⟨h1, h2⟩ := List.mem_filter.mp hp
    obtain ⟨g1, g2⟩ := m.ok p h1
    refine List.mem_filter.mpr ⟨g1, ?_⟩
    cases e : inT T (row p.2) with
    | false => rfl
    | true =>
      have := inT_iff.mp e p.1 g2
      unfold iT at h2
      rw [decide_eq_true this] at h2
      cases h2) (by rw [List.length_map]; omega) a (List.mem_filter.mpr ⟨ha, by rw [e]; rfl⟩)
  obtain ⟨p, hp, rfl⟩ := List.mem_map.mp this
  obtain ⟨g1, g2⟩ := List.mem_filter.mp hp
  refine ⟨p.1, g1, fun z => ?_⟩
  unfold iT at g2
  rw [decide_eq_true z] at g2
  cases g2
end
theorem key_uniq {M : Mt} (h : (M.map (·.1)).Nodup) {s a b : Int} (ha : (s, a) ∈ M) (hb : (s, b) ∈ M) : a = b := by
  induction M with
  | nil => cases ha
  | cons p M ih =>
    have hn := List.nodup_cons.mp (show (p.1 :: M.map (·.1)).Nodup from h)
    rcases List.mem_cons.mp ha with e | ha'
    · rcases List.mem_cons.mp hb with e2 | hb'
      · exact (Prod.mk.inj (e.trans e2.symm)).2
      · exact (hn.1 (List.mem_map.mpr ⟨_, hb', by rw [← e]⟩)).elim
    · rcases List.mem_cons.mp hb with e2 | hb'
      · exact (hn.1 (List.mem_map.mpr ⟨_, ha', by rw [← e2]⟩)).elim
      · exact ih hn.2 ha' hb'
/-- as many as can sit, so far -/
structure SInv (row : Int → List Int) (H : List Int) (M : Mt) : Prop where
  nd : H.Nodup
  ok : MOk row H M
  tight : ∃ T : List Int, T.Nodup ∧ M.length = bd (H.map row) T
theorem SInv.worth {row : Int → List Int} {H : List Int} {M : Mt} (h : SInv row H M) : worthS (H.map row) = M.length := by
  obtain ⟨T, hT, e⟩ := h.tight
  exact worthS_is hT e fun T' _ => ub h.ok T'
theorem sinv_nil {row : Int → List Int} : SInv row [] [] := ⟨List.nodup_nil, ⟨List.nodup_nil, List.nodup_nil, fun _ h => (List.not_mem_nil h).elim⟩, [], List.nodup_nil, rfl⟩
/-- what one search may do: it found a seat -/
structure Suc (row : Int → List Int) (tr : List Int) (M : Mt) (t : Int) (M' : Mt) : Prop where
  kn : (M'.map (·.1)).Nodup
  ed : ∀ p ∈ M', p.1 ∈ row p.2
  len : M'.length = M.length + 1
  st : ∀ s ∈ tr, ∀ a, (s, a) ∈ M' ↔ (s, a) ∈ M
  fr : ∀ p ∈ M', p.1 ∉ tr → p.2 = t ∨ ∃ q ∈ M, q.1 ∉ tr ∧ q.2 = p.2
  inj : ∀ p ∈ M', ∀ q ∈ M', p.1 ∉ tr → q.1 ∉ tr → p.2 = q.2 → p.1 = q.1
/-- .. it found none -/
structure Fai (row : Int → List Int) (tr : List Int) (M : Mt) (rw : List Int) (tr' : List Int) : Prop where
  sub : ∀ s ∈ tr, s ∈ tr'
  rws : ∀ s ∈ rw, s ∈ tr'
  cls : ∀ s ∈ tr', s ∉ tr → ∃ a, (s, a) ∈ M ∧ ∀ x ∈ row a, x ∈ tr'
/-- what it begins with -/
structure Beg (row : Int → List Int) (tr : List Int) (M : Mt) (t : Int) : Prop where
  kn : (M.map (·.1)).Nodup
  ed : ∀ p ∈ M, p.1 ∈ row p.2
  inj : ∀ p ∈ M, ∀ q ∈ M, p.1 ∉ tr → q.1 ∉ tr → p.2 = q.2 → p.1 = q.1
  no : ∀ p ∈ M, p.1 ∉ tr → p.2 ≠ t
section
variable {row : Int → List Int} {H tr tr1 tr2 rw : List Int} {M M' M2 : Mt} {t s a : Int}
theorem nodup_of_inj : ∀ {M : Mt}, (M.map (·.1)).Nodup → (∀ p ∈ M, ∀ q ∈ M, p.2 = q.2 → p.1 = q.1) → (M.map (·.2)).Nodup
  | [], _, _ => List.nodup_nil
  | p :: M, h, k => by
    have hn := List.nodup_cons.mp (show (p.1 :: M.map (·.1)).Nodup from h)
    refine List.nodup_cons.mpr ⟨fun z => ?_, nodup_of_inj hn.2 fun x hx y hy => k x (List.mem_cons_of_mem _ hx) y (List.mem_cons_of_mem _ hy)⟩
    obtain ⟨q, hq, e⟩ := List.mem_map.mp z
    exact hn.1 (List.mem_map.mpr ⟨q, hq, k q (List.mem_cons_of_mem _ hq) p List.mem_cons_self e⟩)
theorem sinv_suc (h : SInv row H M) (ht : t ∉ H) (k : Suc row [] M t M') : SInv row (t :: H) M' := by
  have ok : MOk row (t :: H) M' := by
    refine ⟨k.kn, nodup_of_inj k.kn fun p hp q hq => k.inj p hp q hq List.not_mem_nil List.not_mem_nil, fun p hp => ⟨?_, k.ed p hp⟩⟩
    rcases k.fr p hp List.not_mem_nil with e | ⟨q, hq, _, e⟩
    · rw [e]; exact List.mem_cons_self
    · rw [← e]; exact List.mem_cons_of_mem _ (h.ok.ok q hq).1
  refine ⟨List.nodup_cons.mpr ⟨ht, h.nd⟩, ok, ?_⟩
  obtain ⟨T, hT, e⟩ := h.tight
  refine ⟨T, hT, ?_⟩
  have u := ub ok T
  have l := k.len
  rw [List.map_cons, bd_cons] at u ⊢
  split at u <;> rename_i q <;> simp only [q] <;> simp <;> omega
theorem sinv_fai (h : SInv row H M) (ht : t ∉ H) (k : Fai row [] M (row t) tr) (hn : tr.Nodup) : SInv row (t :: H) M := by
  have ok : MOk row (t :: H) M := ⟨h.ok.kn, h.ok.vn, fun p hp => ⟨List.mem_cons_of_mem _ (h.ok.ok p hp).1, (h.ok.ok p hp).2⟩⟩
  have nd : (t :: H).Nodup := List.nodup_cons.mpr ⟨ht, h.nd⟩
  refine ⟨nd, ok, ?_⟩
  obtain ⟨T, hT, e⟩ := h.tight
  have t1 := tight1 h.ok e
  have t2 := tight2 h.ok e
  have mem : ∀ x, x ∈ T ++ tr.filter (fun s => !decide (s ∈ T)) ↔ x ∈ T ∨ x ∈ tr := fun x => by
    rw [List.mem_append, List.mem_filter]
    by_cases q : x ∈ T <;> simp [q]
  have nT : (T ++ tr.filter (fun s => !decide (s ∈ T))).Nodup := by
    rw [List.nodup_append]
    refine ⟨hT, hn.sublist List.filter_sublist, fun x hx y hy => ?_⟩
    rintro rfl
    have := (List.mem_filter.mp hy).2
    simp [hx] at this
  refine ⟨_, nT, ?_⟩
  generalize T ++ tr.filter (fun s => !decide (s ∈ T)) = T' at mem nT
  refine Nat.le_antisymm (ub ok T') ?_
  rw [bd_map, filter_split (iT T') M]
  have p1 : T'.length ≤ (M.filter (iT T')).length := by
    have := sub_len (l := T') (m := (M.filter (iT T')).map (·.1)) nT fun x hx => by
      have : ∃ a, (x, a) ∈ M := by
        rcases (mem x).mp hx with z | z
        · exact t1 x z
        · obtain ⟨a, h1, _⟩ := k.cls x z List.not_mem_nil
          exact ⟨a, h1⟩
      obtain ⟨a, ha⟩ := this
      exact List.mem_map.mpr ⟨(x, a), List.mem_filter.mpr ⟨ha, decide_eq_true hx⟩, rfl⟩
    rwa [List.length_map] at this
  have p2 : ((t :: H).filter fun t => !inT T' (row t)).length ≤ (M.filter fun p => !iT T' p).length := by
    have := sub_len (l := (t :: H).filter fun t => !inT T' (row t)) (m := (M.filter fun p => !iT T' p).map (·.2)) (nd.sublist List.filter_sublist) fun a ha => by
      obtain ⟨g1, g2⟩ := List.mem_filter.mp ha
      have g3 : ¬ ∀ s ∈ row a, s ∈ T' := fun z => by
        rw [inT_iff.mpr z] at g2
        cases g2
      rcases List.mem_cons.mp g1 with rfl | g1
      · exact (g3 fun s hs => (mem s).mpr (.inr (k.rws s hs))).elim
      · have g4 : inT T (row a) = false := by
          cases q : inT T (row a) with
          | false => rfl
          | true => exact (g3 fun s hs => (mem s).mpr (.inl (inT_iff.mp q s hs))).elim
        obtain ⟨s, h1, h2⟩ := t2 a g1 g4
        have h3 : s ∉ T' := fun z => by
          rcases (mem s).mp z with z | z
          · exact h2 z
          · obtain ⟨b, h4, h5⟩ := k.cls s z List.not_mem_nil
            have := key_uniq h.ok.kn h1 h4
            subst this
            exact g3 fun x hx => (mem x).mpr (.inr (h5 x hx))
        exact List.mem_map.mpr ⟨(s, a), List.mem_filter.mpr ⟨h1, by unfold iT; simp [h3]⟩, rfl⟩
    rwa [List.length_map] at this
  omega
theorem sinv_beg (h : SInv row H M) (ht : t ∉ H) : Beg row [] M t := by
  refine ⟨h.ok.kn, fun p hp => (h.ok.ok p hp).2, fun p hp q hq _ _ e => ?_, fun p hp _ e => ht (by rw [← e]; exact (h.ok.ok p hp).1)⟩
  have vn := h.ok.vn
  clear ht
  have main : ∀ {M : Mt}, (M.map (·.2)).Nodup → p ∈ M → q ∈ M → p = q := by
    intro M
    clear hp hq
    induction M with
    | nil => intro _ h; cases h
    | cons x M ih =>
      intro hn h1 h2
      have hn' := List.nodup_cons.mp (show (x.2 :: M.map (·.2)).Nodup from hn)
      rcases List.mem_cons.mp h1 with rfl | h1
      · rcases List.mem_cons.mp h2 with rfl | h2
        · rfl
        · exact (hn'.1 (List.mem_map.mpr ⟨q, by assumption, e.symm⟩)).elim
      · rcases List.mem_cons.mp h2 with rfl | h2
        · exact (hn'.1 (List.mem_map.mpr ⟨p, by assumption, e⟩)).elim
        · exact ih hn'.2 (by assumption) (by assumption)
  rw [main vn hp hq]
/-- the search goes on with a seat that nobody has tried -/
theorem beg_in (b : Beg row tr M t) (f : ∀ x ∈ tr, x ∈ tr1) (hs : s ∉ tr) (ha : (s, a) ∈ M) : Beg row (tr1 ++ [s]) M a := by
  have out : ∀ {x : Int}, x ∉ tr1 ++ [s] → x ∉ tr ∧ x ≠ s := fun {x} h => ⟨fun z => h (List.mem_append_left _ (f x z)), fun z => h (List.mem_append_right _ (by rw [z]; exact List.mem_singleton.mpr rfl))⟩
  refine ⟨b.kn, b.ed, fun p hp q hq h1 h2 => b.inj p hp q hq (out h1).1 (out h2).1, fun p hp h1 e => (out h1).2 (b.inj p hp (s, a) ha (out h1).1 hs e)⟩
theorem suc_free (b : Beg row tr M t) (hs : s ∉ tr) (hr : s ∈ row t) (hf : s ∉ M.map (·.1)) : Suc row tr M t (M ++ [(s, t)]) := by
  refine ⟨?_, fun p hp => ?_, by simp, fun x hx a => ?_, fun p hp hx => ?_, fun p hp q hq h1 h2 e => ?_⟩
  · rw [List.map_append, List.nodup_append]
    refine ⟨b.kn, by simp, fun x hx y hy => ?_⟩
    have : y = s := by simpa using hy
    subst this
    rintro rfl
    exact hf hx
  · rcases List.mem_append.mp hp with hp | hp
    · exact b.ed p hp
    · rw [List.mem_singleton.mp hp]; exact hr
  · rw [List.mem_append]
    constructor
    · rintro (z | z)
      · exact z
      · have := List.mem_singleton.mp z
        rw [(Prod.mk.inj this).1] at hx
        exact (hs hx).elim
    · exact .inl
  · rcases List.mem_append.mp hp with hp | hp
    · exact .inr ⟨p, hp, hx, rfl⟩
    · rw [List.mem_singleton.mp hp]; exact .inl rfl
  · rcases List.mem_append.mp hp with hp | hp
    · rcases List.mem_append.mp hq with hq | hq
      · exact b.inj p hp q hq h1 h2 e
      · rw [List.mem_singleton.mp hq] at e
        exact (b.no p hp h1 e).elim
    · rcases List.mem_append.mp hq with hq | hq
      · rw [List.mem_singleton.mp hp] at e
        exact (b.no q hq h2 e.symm).elim
      · rw [List.mem_singleton.mp hp, List.mem_singleton.mp hq]
def setM (M : Mt) (s t : Int) : Mt := M.map fun p => if p.1 = s then (s, t) else p
theorem setM_keys : (setM M s t).map (·.1) = M.map (·.1) := by
  unfold setM
  rw [List.map_map]
  refine List.map_congr_left fun p _ => ?_
  show (if p.1 = s then (s, t) else p).1 = p.1
  split
  · rename_i h; exact h.symm
  · rfl
theorem mem_setM {p : Int × Int} : p ∈ setM M s t ↔ (p = (s, t) ∧ s ∈ M.map (·.1)) ∨ (p ∈ M ∧ p.1 ≠ s) := by
  unfold setM
  rw [List.mem_map]
  constructor
  · rintro ⟨q, hq, e⟩
    by_cases h : q.1 = s
    · rw [if_pos h] at e
      exact .inl ⟨e.symm, List.mem_map.mpr ⟨q, hq, h⟩⟩
    · rw [if_neg h] at e
      subst e
      exact .inr ⟨hq, h⟩
  · rintro (⟨rfl, h⟩ | ⟨h, n⟩)
    · obtain ⟨q, hq, e⟩ := List.mem_map.mp h
      exact ⟨q, hq, if_pos e⟩
    · exact ⟨p, h, if_neg n⟩
theorem suc_moved (b : Beg row tr M t) (f : ∀ x ∈ tr, x ∈ tr1) (hs : s ∉ tr) (hs1 : s ∉ tr1) (ha : (s, a) ∈ M) (hr : s ∈ row t) (k : Suc row (tr1 ++ [s]) M a M2) : Suc row tr M t (setM M2 s t) := by
  have old : ∀ {p : Int × Int}, p.1 ∈ tr1 ++ [s] → p ∈ M2 → p ∈ M := fun {p} hx h => (k.st p.1 hx p.2).mp h
  have s1 : s ∈ tr1 ++ [s] := List.mem_append_right _ (List.mem_singleton.mpr rfl)
  have out : ∀ {x : Int}, x ∉ tr1 ++ [s] → x ∉ tr ∧ x ≠ s := fun {x} h => ⟨fun z => h (List.mem_append_left _ (f x z)), fun z => h (by rw [z]; exact s1)⟩
  have na : a ≠ t := b.no _ ha hs
  have noT : ∀ q ∈ M2, q.1 ∉ tr → q.1 ≠ s → q.2 ≠ t := fun q hq h1 h2 e => by
    by_cases z : q.1 ∈ tr1 ++ [s]
    · exact b.no q (old z hq) h1 e
    · rcases k.fr q hq z with y | ⟨r, hr, h3, h4⟩
      · exact na (y.symm.trans e)
      · exact b.no r hr (out h3).1 (h4.trans e)
  refine ⟨by rw [setM_keys]; exact k.kn, fun p hp => ?_, by unfold setM; rw [List.length_map]; exact k.len, fun x hx c => ?_, fun p hp hx => ?_, fun p hp q hq h1 h2 e => ?_⟩
  · rcases mem_setM.mp hp with ⟨rfl, _⟩ | ⟨h, _⟩
    · exact hr
    · exact k.ed p h
  · have ne : x ≠ s := by rintro rfl; exact hs hx
    rw [mem_setM, ← k.st x (List.mem_append_left _ (f x hx)) c]
    constructor
    · rintro (⟨e, _⟩ | ⟨h, _⟩)
      · exact (ne (Prod.mk.inj e).1).elim
      · exact h
    · exact fun h => .inr ⟨h, ne⟩
  · rcases mem_setM.mp hp with ⟨rfl, _⟩ | ⟨h, n⟩
    · exact .inl rfl
    · refine .inr ?_
      by_cases z : p.1 ∈ tr1 ++ [s]
      · exact ⟨p, old z h, hx, rfl⟩
      · rcases k.fr p h z with y | ⟨q, hq, h3, h4⟩
        · exact ⟨(s, a), ha, hs, y.symm⟩
        · exact ⟨q, hq, (out h3).1, h4⟩
  · rcases mem_setM.mp hp with ⟨rfl, _⟩ | ⟨hp, np⟩
    · rcases mem_setM.mp hq with ⟨rfl, _⟩ | ⟨hq, nq⟩
      · rfl
      · exact (noT q hq h2 nq e.symm).elim
    · rcases mem_setM.mp hq with ⟨rfl, _⟩ | ⟨hq, nq⟩
      · exact (noT p hp h1 np e).elim
      · have mix : ∀ p ∈ M2, ∀ q ∈ M2, p.1 ∉ tr → p.1 ≠ s → q.1 ∉ tr → p.2 = q.2 → p.1 ∈ tr1 ++ [s] → q.1 ∉ tr1 ++ [s] → False := fun p hp q hq h1 np h2 e z1 z2 => by
          have hp' := old z1 hp
          rcases k.fr q hq z2 with y | ⟨r, hr, h3, h4⟩
          · exact np (b.inj p hp' (s, a) ha h1 hs (e.trans y))
          · have := b.inj p hp' r hr h1 (out h3).1 (e.trans h4.symm)
            rw [this] at z1
            exact h3 z1
        by_cases z1 : p.1 ∈ tr1 ++ [s]
        · by_cases z2 : q.1 ∈ tr1 ++ [s]
          · exact b.inj p (old z1 hp) q (old z2 hq) h1 h2 e
          · exact (mix p hp q hq h1 np h2 e z1 z2).elim
        · by_cases z2 : q.1 ∈ tr1 ++ [s]
          · exact (mix q hq p hp h2 nq h1 e.symm z2 z1).elim
          · exact k.inj p hp q hq z1 z2 e
theorem suc_key (k : Suc row (tr1 ++ [s]) M a M2) (ha : (s, a) ∈ M) : s ∈ M2.map (·.1) := List.mem_map.mpr ⟨(s, a), (k.st s (List.mem_append_right _ (List.mem_singleton.mpr rfl)) a).mpr ha, rfl⟩
/-- one seat more was looked at in vain -/
theorem fai_in (f : Fai row tr M rw tr1) (ha : (s, a) ∈ M) (k : Fai row (tr1 ++ [s]) M (row a) tr2) : Fai row tr M (rw ++ [s]) tr2 := by
  have i1 : ∀ x ∈ tr1, x ∈ tr2 := fun x hx => k.sub x (List.mem_append_left _ hx)
  have i2 : s ∈ tr2 := k.sub s (List.mem_append_right _ (List.mem_singleton.mpr rfl))
  refine ⟨fun x hx => i1 x (f.sub x hx), fun x hx => ?_, fun x hx n => ?_⟩
  · rcases List.mem_append.mp hx with hx | hx
    · exact i1 x (f.rws x hx)
    · rw [List.mem_singleton.mp hx]; exact i2
  · by_cases z : x ∈ tr1
    · obtain ⟨c, h1, h2⟩ := f.cls x z n
      exact ⟨c, h1, fun y hy => i1 y (h2 y hy)⟩
    · by_cases e : x = s
      · subst e
        exact ⟨a, ha, fun y hy => k.rws y hy⟩
      · exact k.cls x hx fun w => by
          rcases List.mem_append.mp w with w | w
          · exact z w
          · exact e (List.mem_singleton.mp w)
theorem fai_old (f : Fai row tr M rw tr1) (hs : s ∈ tr1) : Fai row tr M (rw ++ [s]) tr1 := ⟨f.sub, fun x hx => by
  rcases List.mem_append.mp hx with hx | hx
  · exact f.rws x hx
  · rw [List.mem_singleton.mp hx]; exact hs, f.cls⟩
theorem fai_nil : Fai row tr M [] tr := ⟨fun _ h => h, fun _ h => (List.not_mem_nil h).elim, fun _ h n => (n h).elim⟩
end
end A

namespace A
local macro_rules | `(tactic| walk_at "A.go") => `(tactic| simp only [aSeq, aNext, aSet, aVar, atV_s, onB_b, onI_i, onII_i, onL1_i, onL2_i, it_l, it_t, it_s, it_x, ix_l, ix_t, ix_s, add_i, add_x, eq_i, eq_x, eq_b, is_b, aC, aNil, aCons, aOp, aUn, aTup, aLst, aCB, aNot, aAnd, aOr, aTst, aIfE, aAndV, aOrV, aNotV, aChn, aDrop, aRet, aRetN, aIf, agName, agNil, agCons, agTup, aAsg, aPar, aAug, aFor, aRng1, aRng2, aIter, aLc, aYes,
  aCl, aMt, aMk, aFl, aFst, aNeg, aI2, aI20, aLe, aLt, aGt, aGe, aSub, aMod, aMul, aFdv, aPow, aXor, aShl, aShr, agSub, aoN, aoS, aSl, aRev, aLen, aList, aTupOf, aLRg1, aLRg2, aAbs, aI2N, aMax, aMin, aDm, aAll, aAny, aBM, aApp, aPopAt, aPop, aClear, aRevM, aExt, aRepr, aClD, aLnSt, aIAdd, aBreak, aCont,
  aEnd, startA, List.map_cons, List.map_nil, List.cons_append, List.nil_append, List.length_cons, List.length_nil, List.replicate, List.getElem?_cons_zero, List.getElem?_cons_succ, List.set_cons_zero, List.set_cons_succ, Nat.reduceAdd, Nat.reduceSub, Nat.succ_eq_add_one, Int.reduceAdd, Int.reduceMul,
  reduceIte, Bool.false_eq_true, Bool.not_true, Bool.not_false, ite_true, ite_false])
/-! ### rows: the law's own way, each made lesser by those kept -/
theorem spn_swap {a b : Nat} {l : List Nat} {x : Nat} (h : Spn (a :: b :: l) x) : Spn (b :: a :: l) x := by
  rcases h with (h | h) | (h | h)
  · exact .inl (.inl h)
  · exact .inr (.inl h)
  · exact .inl (.inr h)
  · refine .inr (.inr ?_)
    rwa [Nat.xor_assoc, Nat.xor_comm b a, ← Nat.xor_assoc]
theorem spn_perm {l m : List Nat} (h : l.Perm m) : ∀ x, Spn l x → Spn m x := by
  induction h with
  | nil => exact fun x h => h
  | cons a _ ih => exact fun x h => h.elim (fun z => .inl (ih x z)) fun z => .inr (ih _ z)
  | swap a b l => exact fun x h => spn_swap h
  | trans _ _ ih1 ih2 => exact fun x h => ih2 x (ih1 x h)
theorem red_ex : ∀ l : List Nat, ∃ fr, Red l fr
  | [] => ⟨[], red_nil⟩
  | r :: l => by
    obtain ⟨fr, R⟩ := red_ex l
    have main : ∀ (k r' : Nat), bl r' ≤ k → Spn l (r ^^^ r') → ∃ fr', Red (r :: l) fr' := by
      intro k
      induction k with
      | zero =>
        intro r' hk h
        have : r' = 0 := by
          have := bl_le.mp hk
          simpa using this
        subst this
        exact ⟨fr, red_sum R (by rwa [Nat.xor_zero] at h)⟩
      | succ k ih =>
        intro r' hk h
        by_cases z : r' = 0
        · subst z
          exact ⟨fr, red_sum R (by rwa [Nat.xor_zero] at h)⟩
        · by_cases hb : bl r' ∈ fr.map (·.1)
          · obtain ⟨p, hp, e⟩ := List.mem_map.mp hb
            obtain ⟨g1, g2, g3⟩ := R.bit p hp
            refine ih (r' ^^^ p.2) ?_ ?_
            · have := bl_xor_eq z (y := p.2) (by rw [g2]; exact e.symm)
              omega
            · rw [← Nat.xor_assoc]
              exact spn_xor h g3
          · exact ⟨_, red_new R h z hb⟩
    exact main (bl r) r (Nat.le_refl _) (by rw [Nat.xor_self]; exact spn_zero l)
theorem nodup_castM {l : List Nat} (h : l.Nodup) : (l.map fun (n : Nat) => (n : Int)).Nodup := List.Pairwise.map _ (fun a b (q : a ≠ b) z => q (by omega)) h
theorem red_len {l m : List Nat} {fr gr : List (Nat × Nat)} (R : Red l fr) (G : Red m gr) (h : ∀ x, Spn l x → Spn m x) : fr.length ≤ gr.length := by
  have := sub_len (l := (fr.map (·.1)).map fun (n : Nat) => (n : Int)) (m := (gr.map (·.1)).map fun (n : Nat) => (n : Int)) (nodup_castM R.nd) fun x hx => by
    obtain ⟨n, hn, rfl⟩ := List.mem_map.mp hx
    obtain ⟨p, hp, rfl⟩ := List.mem_map.mp hn
    obtain ⟨g1, g2, g3⟩ := R.bit p hp
    exact List.mem_map.mpr ⟨_, G.all _ (h _ g3) g1, by rw [g2]⟩
  simpa using this
theorem rk_le {l m : List Nat} (h : ∀ x, Spn l x → Spn m x) : rk l ≤ rk m := by
  obtain ⟨fr, R⟩ := red_ex l
  obtain ⟨gr, G⟩ := red_ex m
  rw [← R.len, ← G.len]
  exact red_len R G h
theorem rk_perm {l m : List Nat} (h : l.Perm m) : rk l = rk m := Nat.le_antisymm (rk_le (spn_perm h)) (rk_le (spn_perm h.symm))
theorem lt_of_bit {n m : Nat} (i : Nat) (hn : n.testBit i = false) (hm : m.testBit i = true) (h : ∀ j, i < j → n.testBit j = m.testBit j) : n < m := by
  have e : n / 2 ^ (i + 1) = m / 2 ^ (i + 1) := Nat.eq_of_testBit_eq fun j => by
    rw [Nat.testBit_div_two_pow, Nat.testBit_div_two_pow]
    exact h _ (by omega)
  have hn' : n / 2 ^ i % 2 = 0 := by
    have := hn
    rw [Nat.testBit_eq_decide_div_mod_eq] at this
    have := of_decide_eq_false this
    omega
  have hm' : m / 2 ^ i % 2 = 1 := by
    have := hm
    rw [Nat.testBit_eq_decide_div_mod_eq] at this
    exact of_decide_eq_true this
  have e2 : n / 2 ^ i / 2 = m / 2 ^ i / 2 := by
    rw [Nat.div_div_eq_div_mul, Nat.div_div_eq_div_mul, ← Nat.pow_succ]
    exact e
  have lt : n / 2 ^ i < m / 2 ^ i := by omega
  exact Nat.lt_of_not_le fun le => by
    have := Nat.div_le_div_right (c := 2 ^ i) le
    omega
/-- the lead bit -/
def lead (n : Nat) : Nat := bl n - 1
theorem lead_bit {n : Nat} (h : n ≠ 0) : n.testBit (lead n) = true ∧ ∀ j, lead n < j → n.testBit j = false := by
  have hp := bl_pos h
  obtain ⟨h1, h2⟩ := bl_top (n := n) (j := lead n) (by unfold lead; omega)
  exact ⟨h1, fun j hj => Nat.testBit_lt_two_pow (Nat.lt_of_lt_of_le h2 (Nat.pow_le_pow_right (by decide) hj))⟩
theorem min_xor {r o : Nat} (ho : o ≠ 0) : min r (r ^^^ o) = if r.testBit (lead o) = true then r ^^^ o else r := by
  obtain ⟨h1, h2⟩ := lead_bit ho
  have same : ∀ j, lead o < j → (r ^^^ o).testBit j = r.testBit j := fun j hj => by rw [Nat.testBit_xor, h2 j hj, Bool.xor_false]
  have at_ : (r ^^^ o).testBit (lead o) = !r.testBit (lead o) := by rw [Nat.testBit_xor, h1, Bool.xor_true]
  split
  · rename_i h
    rw [h] at at_
    have := lt_of_bit (lead o) at_ h same
    omega
  · rename_i h
    have h' : r.testBit (lead o) = false := by simpa using h
    rw [h'] at at_
    have := lt_of_bit (lead o) h' at_ fun j hj => (same j hj).symm
    omega
/-- r, made lesser by each of those kept -/
def lesser (r : Nat) (fo : List Nat) : Nat := fo.foldl (fun r o => min r (r ^^^ o)) r
theorem lesser_snoc {r o : Nat} {fo : List Nat} : lesser r (fo ++ [o]) = min (lesser r fo) (lesser r fo ^^^ o) := by unfold lesser; rw [List.foldl_append]; rfl
/-- those kept: each has no lead bit of an elder one -/
structure Kept (l fo : List Nat) : Prop where
  nz : ∀ o ∈ fo, o ≠ 0
  pw : fo.Pairwise fun o u => u.testBit (lead o) = false
  red : Red l (fo.map fun o => (bl o, o))
theorem kept_nil : Kept [] [] := ⟨fun _ h => (List.not_mem_nil h).elim, .nil, red_nil⟩
theorem lesser_spn {l fo : List Nat} (hs : ∀ o ∈ fo, Spn l o) (r : Nat) : Spn l (r ^^^ lesser r fo) := by
  have main : ∀ (fo : List Nat), (∀ o ∈ fo, Spn l o) → ∀ r' : Nat, Spn l (r ^^^ r') → Spn l (r ^^^ fo.foldl (fun r o => min r (r ^^^ o)) r') := by
    intro fo
    induction fo with
    | nil => exact fun _ r' h => h
    | cons o fo ih =>
      intro hs r' h
      refine ih (fun x hx => hs x (List.mem_cons_of_mem _ hx)) _ ?_
      show Spn l (r ^^^ min r' (r' ^^^ o))
      rcases Nat.le_total r' (r' ^^^ o) with q | q
      · rw [Nat.min_eq_left q]; exact h
      · rw [Nat.min_eq_right q, ← Nat.xor_assoc]
        exact spn_xor h (hs o List.mem_cons_self)
  exact main fo hs r (by rw [Nat.xor_self]; exact spn_zero l)
theorem lesser_bits {fo : List Nat} (nz : ∀ o ∈ fo, o ≠ 0) (pw : fo.Pairwise fun o u => u.testBit (lead o) = false) (r : Nat) : ∀ o ∈ fo, (lesser r fo).testBit (lead o) = false := by
  have main : ∀ (fo : List Nat), (∀ o ∈ fo, o ≠ 0) → (fo.Pairwise fun o u => u.testBit (lead o) = false) → ∀ (old : List Nat), (∀ o ∈ old, ∀ u ∈ fo, u.testBit (lead o) = false) → ∀ r : Nat, (∀ o ∈ old, r.testBit (lead o) = false) →
      ∀ o, o ∈ old ∨ o ∈ fo → (fo.foldl (fun r o => min r (r ^^^ o)) r).testBit (lead o) = false := by
    intro fo
    induction fo with
    | nil =>
      rintro _ _ old _ r h o (z | z)
      · exact h o z
      · cases z
    | cons u fo ih =>
      intro nz pw old ho r h o z
      have pw' := List.pairwise_cons.mp pw
      have hu := nz u List.mem_cons_self
      refine ih (fun x hx => nz x (List.mem_cons_of_mem _ hx)) pw'.2 (u :: old) (fun x hx y hy => ?_) _ (fun x hx => ?_) o ?_
      · rcases List.mem_cons.mp hx with rfl | hx
        · exact pw'.1 y hy
        · exact ho x hx y (List.mem_cons_of_mem _ hy)
      · show (min r (r ^^^ u)).testBit (lead x) = false
        rw [min_xor hu]
        rcases List.mem_cons.mp hx with rfl | hx
        · split
          · rename_i q
            rw [Nat.testBit_xor, q, (lead_bit hu).1]; rfl
          · rename_i q; simpa using q
        · split
          · rw [Nat.testBit_xor, h x hx, ho x hx u List.mem_cons_self]; rfl
          · exact h x hx
      · rcases z with z | z
        · exact .inl (List.mem_cons_of_mem _ z)
        · rcases List.mem_cons.mp z with rfl | z
          · exact .inl List.mem_cons_self
          · exact .inr z
  exact fun o ho => main fo nz pw [] (fun _ h => (List.not_mem_nil h).elim) r (fun _ h => (List.not_mem_nil h).elim) o (.inr ho)
theorem kept_spn {l fo : List Nat} (k : Kept l fo) : ∀ o ∈ fo, Spn l o := fun o ho => (k.red.bit (bl o, o) (List.mem_map.mpr ⟨o, ho, rfl⟩)).2.2
theorem kept_none {l fo : List Nat} {r : Nat} (k : Kept l fo) (h : lesser r fo = 0) : Kept (r :: l) fo := by
  have := lesser_spn (kept_spn k) r
  rw [h, Nat.xor_zero] at this
  exact ⟨k.nz, k.pw, red_sum k.red this⟩
theorem kept_new {l fo : List Nat} {r : Nat} (k : Kept l fo) (h : lesser r fo ≠ 0) : Kept (r :: l) (fo ++ [lesser r fo]) := by
  have b := lesser_bits k.nz k.pw r
  refine ⟨fun o ho => ?_, ?_, ?_⟩
  · rcases List.mem_append.mp ho with ho | ho
    · exact k.nz o ho
    · rw [List.mem_singleton.mp ho]; exact h
  · rw [List.pairwise_append]
    refine ⟨k.pw, List.pairwise_singleton _ _, fun o ho u hu => ?_⟩
    rw [List.mem_singleton.mp hu]
    exact b o ho
  · rw [List.map_append]
    refine red_new k.red (lesser_spn (kept_spn k) r) h fun z => ?_
    rw [List.map_map] at z
    obtain ⟨o, ho, e⟩ := List.mem_map.mp z
    have e' : bl o = bl (lesser r fo) := e
    have := b o ho
    have h2 := (lead_bit h).1
    unfold lead at this h2
    rw [e', h2] at this
    cases this
theorem kept_len {l fo : List Nat} (k : Kept l fo) : fo.length = rk l := by
  have := k.red.len
  rwa [List.length_map] at this
/-! ### ties: the number of pieces does not depend on the labels -/
theorem good_eq {n : Nat} {es : List Tie} {lab lab' : Int → Int} (g : Good n es lab) (g' : Good n es lab') {i j : Int} (hi : InR n i) (hj : InR n j) (h : lab i = lab j) : lab' i = lab' j :=
  (g.cls (fun x => lab' x = lab' i) (fun e he => by rw [g'.tie e he]) i j hi hj h rfl).symm
theorem cnt_le {n : Nat} {lab lab' : Int → Int} (r : ∀ i, InR n i → InR n (lab' i)) (h : ∀ i j, InR n i → InR n j → lab' i = lab' j → lab i = lab j) : cnt n lab ≤ cnt n lab' := by
  unfold cnt cntS
  have rep : ∀ x : Int, ∃ i : Int, (∃ i, InR n i ∧ lab i = x) → InR n i ∧ lab i = x := fun x => by
    by_cases q : ∃ i, InR n i ∧ lab i = x
    · obtain ⟨i, hi⟩ := q; exact ⟨i, fun _ => hi⟩
    · exact ⟨0, fun z => (q z).elim⟩
  obtain ⟨f, hf⟩ := Classical.axiomOfChoice rep
  have ex : ∀ x ∈ (rng n).filter fun x => (rng n).any fun i => decide (lab i = x), InR n (f x) ∧ lab (f x) = x := fun x hx => by
    obtain ⟨_, h2⟩ := List.mem_filter.mp hx
    obtain ⟨i, h3, h4⟩ := any_lab.mp h2
    exact hf x ⟨i, mem_rngI.mp h3, h4⟩
  generalize hL : ((rng n).filter fun x => (rng n).any fun i => decide (lab i = x)) = L at ex
  have nL : L.Nodup := by rw [← hL]; exact rng_nodup.sublist List.filter_sublist
  have := sub_len (l := L.map fun x => lab' (f x)) (m := (rng n).filter fun x => (rng n).any fun i => decide (lab' i = x)) ?_ ?_
  · rwa [List.length_map] at this
  · clear hL
    induction L with
    | nil => exact List.nodup_nil
    | cons x L ih =>
      have nn := List.nodup_cons.mp nL
      refine List.nodup_cons.mpr ⟨fun z => ?_, ih (fun y hy => ex y (List.mem_cons_of_mem _ hy)) nn.2⟩
      obtain ⟨y, hy, e⟩ := List.mem_map.mp z
      obtain ⟨a1, a2⟩ := ex x List.mem_cons_self
      obtain ⟨b1, b2⟩ := ex y (List.mem_cons_of_mem _ hy)
      have := h _ _ b1 a1 e
      rw [a2, b2] at this
      subst this
      exact nn.1 hy
  · intro y hy
    obtain ⟨x, hx, rfl⟩ := List.mem_map.mp hy
    obtain ⟨a1, a2⟩ := ex x hx
    exact List.mem_filter.mpr ⟨mem_rngI.mpr (r _ a1), any_lab.mpr ⟨_, mem_rngI.mpr a1, rfl⟩⟩
theorem cnt_good {n : Nat} {es : List Tie} {lab lab' : Int → Int} (g : Good n es lab) (g' : Good n es lab') : cnt n lab = cnt n lab' :=
  Nat.le_antisymm (cnt_le g'.rg fun _ _ hi hj h => good_eq g' g hi hj h) (cnt_le g.rg fun _ _ hi hj h => good_eq g g' hi hj h)
theorem cnt_perm {n : Nat} {es es' : List Tie} (h : es.Perm es') (t : TiesIn n es) : cnt n (labs es) = cnt n (labs es') :=
  cnt_good ((good_labs t).mem fun e => h.mem_iff) (good_labs fun e he => t e (h.mem_iff.mpr he))
/-- the law's own labels: the lesser of the two for both -/
def stepMin (lab : Int → Int) (e : Tie) : Int → Int := fun i => if lab i = lab e.1 ∨ lab i = lab e.2 then min (lab e.1) (lab e.2) else lab i
theorem good_min {n : Nat} {es : List Tie} {lab : Int → Int} {e : Tie} (g : Good n es lab) (h1 : InR n e.1) (h2 : InR n e.2) : Good n (es ++ [e]) (stepMin lab e) := by
  refine ⟨fun x hx => ?_, fun P hP i j hi hj q p => ?_, fun i hi => ?_⟩
  · rcases List.mem_append.mp hx with hx | hx
    · unfold stepMin; rw [g.tie x hx]
    · rw [List.mem_singleton.mp hx]
      unfold stepMin
      rw [if_pos (.inl rfl), if_pos (.inr rfl)]
  · have hP' : ∀ x ∈ es, P x.1 ↔ P x.2 := fun x hx => hP x (List.mem_append_left _ hx)
    have hPe := hP e (List.mem_append_right _ List.mem_cons_self)
    have c := g.cls P hP'
    have one : ∀ i, InR n i → (lab i = lab e.1 ∨ lab i = lab e.2) → (P i ↔ P e.1) := fun i hi z => by
      rcases z with z | z
      · exact ⟨c i e.1 hi h1 z, c e.1 i h1 hi z.symm⟩
      · exact ⟨fun p => hPe.mpr (c i e.2 hi h2 z p), fun p => c e.2 i h2 hi z.symm (hPe.mp p)⟩
    have mm : min (lab e.1) (lab e.2) = lab e.1 ∨ min (lab e.1) (lab e.2) = lab e.2 := by omega
    unfold stepMin at q
    by_cases a : lab i = lab e.1 ∨ lab i = lab e.2
    · by_cases b : lab j = lab e.1 ∨ lab j = lab e.2
      · exact (one j hj b).mpr ((one i hi a).mp p)
      · rw [if_pos a, if_neg b] at q
        exact (b (by omega)).elim
    · by_cases b : lab j = lab e.1 ∨ lab j = lab e.2
      · rw [if_neg a, if_pos b] at q
        exact (a (by omega)).elim
      · rw [if_neg a, if_neg b] at q
        exact c i j hi hj q p
  · unfold stepMin
    split
    · have a := g.rg _ h1
      have b := g.rg _ h2
      unfold InR at *
      omega
    · exact g.rg _ hi
end A

/-! ## yards of the four sorts: the data -/
namespace A
open PySem PySem.Spec L2 PyProof.Rows
local macro_rules | `(tactic| walk_at "A.go") => `(tactic| simp only [aSeq, aNext, aSet, aVar, atV_s, onB_b, onI_i, onII_i, onL1_i, onL2_i, it_l, it_t, it_s, it_x, ix_l, ix_t, ix_s, add_i, add_x, eq_i, eq_x, eq_b, is_b, aC, aNil, aCons, aOp, aUn, aTup, aLst, aCB, aNot, aAnd, aOr, aTst, aIfE, aAndV, aOrV, aNotV, aChn, aDrop, aRet, aRetN, aIf, agName, agNil, agCons, agTup, aAsg, aPar, aAug, aFor, aRng1, aRng2, aIter, aLc, aYes,
  aCl, aMt, aMk, aFl, aFst, aNeg, aI2, aI20, aLe, aLt, aGt, aGe, aSub, aMod, aMul, aFdv, aPow, aXor, aShl, aShr, agSub, aoN, aoS, aSl, aRev, aLen, aList, aTupOf, aLRg1, aLRg2, aAbs, aI2N, aMax, aMin, aDm, aAll, aAny, aBM, aApp, aPopAt, aPop, aClear, aRevM, aExt, aRepr, aClD, aLnSt, aIAdd, aBreak, aCont,
  aEnd, startA, List.map_cons, List.map_nil, List.cons_append, List.nil_append, List.length_cons, List.length_nil, List.replicate, List.getElem?_cons_zero, List.getElem?_cons_succ, List.set_cons_zero, List.set_cons_succ, Nat.reduceAdd, Nat.reduceSub, Nat.succ_eq_add_one, Int.reduceAdd, Int.reduceMul,
  reduceIte, Bool.false_eq_true, Bool.not_true, Bool.not_false, ite_true, ite_false])
theorem fnA_never {P : Program} {w : World} {K : PySem.W.Frag} {mg : Str → Option Value} {base : Heap} {k : Nat} {f : Addr} {fd : FuncData} {ps : List Str} {sp : SpA} (h : ∀ ds S Q E, ¬ sp ds S Q E) : FnA P w K mg base k f fd ps sp := by
  refine ⟨⟨?_, ?_⟩⟩
  · rintro vs H Q E ⟨ds, F, S, R, Q', E', _, _, z, _⟩
    exact (h _ _ _ _ z).elim
  · rintro A outer s H args us vs Q E _ _ _ _ ⟨ds, F, S, R, Q', E', _, _, z, _⟩
    exact (h _ _ _ _ z).elim
inductive So where
  | ties | rows | lots | seats
  deriving DecidableEq
def So.nm : So → Str
  | .ties => "Ties"
  | .rows => "Rows"
  | .lots => "Lots"
  | .seats => "Seats"
def allSo : List So := [.ties, .rows, .lots, .seats]
theorem all_so (s : So) : s ∈ allSo := by cases s <;> decide
def So.eq : So → So → Bool
  | .ties, .ties | .rows, .rows | .lots, .lots | .seats, .seats => true
  | _, _ => false
theorem So.eq_iff {s t : So} : s.eq t = true ↔ s = t := by cases s <;> cases t <;> decide
def So.cls (K : PySem.W.Frag) (s : So) : Addr := He.ga K s.nm
def hasSo (K : PySem.W.Frag) (s : So) : Bool := kGlo s.nm K
/-- the sorts that the law's program has -/
def sorts (K : PySem.W.Frag) : List So := allSo.filter (hasSo K)
def okL (l : List So) (K : PySem.W.Frag) (C : Addr) : Prop := ∃ s ∈ l, s ∈ sorts K ∧ C = s.cls K
abbrev okY := okL allSo
def kSorts (m : List So) : Chk := fun K => decide (sorts K = m)
def orAll (K : PySem.W.Frag) (C : Addr) : List So → Prop
  | [] => False
  | [s] => C = He.ga K s.nm
  | s :: t => C = He.ga K s.nm ∨ orAll K C t
theorem orAll_of {K : PySem.W.Frag} {C : Addr} {s : So} : ∀ {l : List So}, s ∈ l → C = s.cls K → orAll K C l
  | [t], h, e => by
    rw [List.mem_singleton.mp h] at e
    exact e
  | t :: u :: r, h, e => by
    rcases List.mem_cons.mp h with rfl | h
    · exact .inl e
    · exact .inr (orAll_of h e)
theorem okL_or {l m : List So} {K : PySem.W.Frag} {C : Addr} (h : okL l K C) (c : kSorts m K = true) : orAll K C (l.filter fun s => m.any (So.eq s)) := by
  obtain ⟨s, h1, h2, h3⟩ := h
  rw [of_decide_eq_true c] at h2
  exact orAll_of (List.mem_filter.mpr ⟨h1, List.any_eq_true.mpr ⟨s, h2, So.eq_iff.mpr rfl⟩⟩) h3
def bty : List String := ["NoneType", "bool", "int", "str", "list", "tuple"]
/-- what the classes are to one another and to the built-in types -/
def Kf (K : PySem.W.Frag) : Prop := (∀ s ∈ sorts K, ∀ t ∈ allSo, s ≠ t → s.cls K ≠ t.cls K) ∧ (∀ s ∈ sorts K, PySem.W.kitOne K (.ref (s.cls K)) (.ref (He.ga K "Yard")) = some true) ∧
  (∀ s ∈ sorts K, ∀ t ∈ sorts K, PySem.W.kitOne K (.ref (s.cls K)) (.ref (t.cls K)) = some (decide (s = t))) ∧ ∀ t ∈ bty, PySem.W.kitOne K (.type t) (.ref (He.ga K "Yard")) = some false
instance (K : PySem.W.Frag) : Decidable (Kf K) := by unfold Kf; infer_instance
/-- all four sorts are there -/
def K4 (K : PySem.W.Frag) : Prop := sorts K = allSo ∧ Kf K
instance (K : PySem.W.Frag) : Decidable (K4 K) := by unfold K4; infer_instance
def kK4 : Chk := fun K => decide (K4 K)
def nD (n : Nat) : D := .int n
def iD (l : List Int) : D := .lst (l.map .int)
def prD (e : Tie) : D := .tup [.int e.1, .int e.2]
inductive Yd where
  | ties (n : Nat) (es : List Tie)
  | rows (rs : List Nat)
  | lots (ts ls : List Nat)
  | seats (n : Nat) (rs : List (List Int))
  deriving DecidableEq
def Heap_ (m : Nat) (hp : List Int) : Prop := hp.Nodup ∧ ∀ i ∈ hp, InR m i
namespace Yd
def so : Yd → So
  | ties _ _ => .ties
  | rows _ => .rows
  | lots _ _ => .lots
  | seats _ _ => .seats
abbrev cls (K : PySem.W.Frag) (u : Yd) : Addr := u.so.cls K
def len : Yd → Nat
  | ties _ es => es.length
  | rows rs => rs.length
  | lots _ ls => ls.length
  | seats _ rs => rs.length
def base (n : Nat) : List (Str × D) := [("numbers", .lst ((rng n).map .int)), ("nested", .int 0)]
def flds : Yd → List (Str × D)
  | ties n es => base es.length ++ ([("own_places", .int (n : Nat)), ("own_pairs", .lst (es.map prD))] : List (Str × D))
  | rows rs => base rs.length ++ ([("own_rows", .lst (rs.map nD))] : List (Str × D))
  | lots ts ls => base ls.length ++ ([("own_tops", .lst (ts.map nD)), ("own_lots", .lst (ls.map nD))] : List (Str × D))
  | seats n rs => base rs.length ++ ([("own_seats", .int (n : Nat)), ("own_rows", .lst (rs.map iD))] : List (Str × D))
def Ok : Yd → Prop
  | ties n es => 1 ≤ n ∧ n ≤ 12 ∧ es.length ≤ 24 ∧ TiesIn n es
  | rows rs => rs.length ≤ 24 ∧ ∀ r ∈ rs, r < 2 ^ 12
  | lots ts ls => ts.length ≤ 8 ∧ (∀ t ∈ ts, t ≤ 24) ∧ ls.length ≤ 24 ∧ ∀ l ∈ ls, l < ts.length
  | seats n rs => n ≤ 12 ∧ rs.length ≤ 24 ∧ ∀ r ∈ rs, Heap_ n r
/-- the things, as data -/
def told : Yd → List D
  | ties _ es => es.map prD
  | rows rs => rs.map nD
  | lots _ ls => ls.map nD
  | seats _ rs => rs.map iD
/-- the law's own words -/
def word : Yd → Str
  | ties _ _ => "ties"
  | rows _ => "rows"
  | lots _ _ => "lots"
  | seats _ _ => "seats"
def first : Yd → D
  | ties n _ => .int n
  | rows _ => .int 0
  | lots ts _ => .lst (ts.map nD)
  | seats n _ => .int n
end Yd
def specD (u : Yd) : D := .tup [.str u.word, u.first, .lst u.told]
def IsY (K : PySem.W.Frag) (S : Sto) (y : Addr) (u : Yd) : Prop := S y = some (.ins (u.cls K) u.flds) ∧ u.Ok ∧ Kf K ∧ u.so ∈ sorts K
def tieAt (es : List Tie) (i : Int) : Tie := es.getD i.toNat (0, 0)
def natAt (rs : List Nat) (i : Int) : Nat := rs.getD i.toNat 0
def rowAt (rs : List (List Int)) (i : Int) : List Int := rs.getD i.toNat []
def worthT (n : Nat) (es : List Tie) : Int := n - cnt n (labs es)
def worthR (rs : List Nat) : Int := (rk rs.reverse : Nat)
def worthL (ts ls : List Nat) : Nat := ((List.range ts.length).map fun k => min (ls.count k) (ts.getD k 0)).sum
noncomputable def Yd.worth : Yd → List Int → Int
  | .ties n es, hp => worthT n (hp.map (tieAt es))
  | .rows rs, hp => worthR (hp.map (natAt rs))
  | .lots ts ls, hp => (worthL ts (hp.map (natAt ls)) : Nat)
  | .seats _ rs, hp => (worthS (hp.map (rowAt rs)) : Nat)
theorem getD_get {α : Type} {l : List α} {i : Int} {x : α} (h : InR l.length i) : l[i.toNat]? = some (l.getD i.toNat x) := by
  have : i.toNat < l.length := by have := h.1; have := h.2; omega
  rw [List.getD_eq_getElem?_getD, List.getElem?_eq_getElem this]
  rfl
theorem getD_mem {α : Type} {l : List α} {i : Int} {x : α} (h : InR l.length i) : l.getD i.toNat x ∈ l := List.mem_of_getElem? (getD_get h)
theorem ties_at {n : Nat} {es : List Tie} {hp : List Int} (h : TiesIn n es) (hr : ∀ i ∈ hp, InR es.length i) : TiesIn n (hp.map (tieAt es)) := fun e he => by
  obtain ⟨i, hi, rfl⟩ := List.mem_map.mp he
  exact h _ (getD_mem (hr i hi))
/-- a heap's worth goes by its things alone -/
theorem Yd.worth_perm {u : Yd} {hp hq : List Int} (ok : u.Ok) (hr : ∀ i ∈ hp, InR u.len i) (h : hp.Perm hq) : u.worth hp = u.worth hq := by
  cases u with
  | ties n es => show worthT n _ = worthT n _; unfold worthT; rw [cnt_perm (h.map _) (ties_at ok.2.2.2 hr)]
  | rows rs => show worthR _ = worthR _; unfold worthR; rw [rk_perm (((List.reverse_perm _).trans (h.map _)).trans (List.reverse_perm _).symm)]
  | lots ts ls =>
    show ((worthL ts _ : Nat) : Int) = (worthL ts _ : Nat)
    unfold worthL
    rw [show (fun k => min ((hp.map (natAt ls)).count k) (ts.getD k 0)) = fun k => min ((hq.map (natAt ls)).count k) (ts.getD k 0) from funext fun k => by rw [(h.map _).count_eq]]
  | seats n rs => show ((worthS _ : Nat) : Int) = (worthS _ : Nat); rw [worthS_perm (h.map _)]
/-- a heap with a thing more -/
def adj (hp : List Int) (i : Int) : List Int := if i ∈ hp then hp else hp ++ [i]
noncomputable def Yd.adds (u : Yd) (hp : List Int) (i : Int) : Bool := decide (u.worth hp < u.worth (adj hp i))
theorem mem_adj {hp : List Int} {i k : Int} : k ∈ adj hp i ↔ k ∈ hp ∨ k = i := by
  unfold adj
  split
  · rename_i h
    exact ⟨.inl, fun z => z.elim id fun e => by rw [e]; exact h⟩
  · simp
theorem heap_adj {m : Nat} {hp : List Int} {i : Int} (h : Heap_ m hp) (hi : InR m i) : Heap_ m (adj hp i) := by
  refine ⟨?_, fun k hk => ?_⟩
  · unfold adj
    split
    · exact h.1
    · rename_i n
      rw [List.nodup_append]
      exact ⟨h.1, by simp, fun a ha b hb => by rw [List.mem_singleton.mp hb]; rintro rfl; exact n ha⟩
  · rcases mem_adj.mp hk with z | rfl
    · exact h.2 k z
    · exact hi
theorem perm_of {l m : List Int} (h1 : l.Nodup) (h2 : m.Nodup) (h : ∀ k, k ∈ l ↔ k ∈ m) : l.Perm m := by
  induction l generalizing m with
  | nil =>
    cases m with
    | nil => exact .nil
    | cons a m => exact ((List.not_mem_nil ((h a).mpr List.mem_cons_self))).elim
  | cons a l ih =>
    have n1 := List.nodup_cons.mp h1
    have ha : a ∈ m := (h a).mp List.mem_cons_self
    refine List.Perm.trans ?_ (List.perm_cons_erase ha).symm
    refine (ih n1.2 (h2.erase a) fun k => ?_).cons a
    rw [h2.mem_erase_iff]
    constructor
    · intro hk
      exact ⟨by rintro rfl; exact n1.1 hk, (h k).mp (List.mem_cons_of_mem _ hk)⟩
    · rintro ⟨ne, hk⟩
      rcases List.mem_cons.mp ((h k).mpr hk) with z | z
      · exact (ne z).elim
      · exact z
theorem sorted_nodup {ns : List Int} (h : ns.Pairwise (· < ·)) : ns.Nodup := h.imp fun {a b} (q : a < b) => by omega
theorem IsY.ins {K : PySem.W.Frag} {S : Sto} {y : Addr} {u : Yd} (h : IsY K S y u) : insOf S (.own y) = some (u.cls K, u.flds) := by
  unfold insOf
  simp only [h.1]
theorem IsY.sub {K : PySem.W.Frag} {S S' : Sto} {y : Addr} {u : Yd} (h : IsY K S y u) (s : Sub S S') : IsY K S' y u := ⟨s _ _ h.1, h.2⟩
theorem IsY.ok {K : PySem.W.Frag} {S : Sto} {y : Addr} {u : Yd} (h : IsY K S y u) : okY K (u.cls K) := ⟨_, all_so _, h.2.2.2, rfl⟩
theorem Yd.nums (u : Yd) : u.flds.lookup ("numbers" : Str) = some (D.lst ((rng u.len).map .int)) := by cases u <;> rfl
theorem Yd.le {u : Yd} (h : u.Ok) : u.len ≤ 24 := by
  cases u with
  | ties n es => exact h.2.2.1
  | rows rs => exact h.1
  | lots ts ls => exact h.2.2.1
  | seats n rs => exact h.2.1
theorem IsY.le {K : PySem.W.Frag} {S : Sto} {y : Addr} {u : Yd} (h : IsY K S y u) : u.len ≤ 24 := Yd.le h.2.1
/-- a method that each class has: what is promised, sort by sort -/
theorem fam4 {K : PySem.W.Frag} (f : Kf K) {s : So} (hs : s ∈ sorts K) {l : List (Addr × SpA)} {L : List (So × SpA)} (e : l = L.map fun p => (p.1.cls K, p.2)) {ds : List D} {S : Sto} {Q : KD} {E : KX} (h : ∀ p ∈ L, p.1 = s → p.2 ds S Q E) : famS l (s.cls K) ds S Q E := by
  intro p hp ep
  subst e
  obtain ⟨q, hq, rfl⟩ := List.mem_map.mp hp
  by_cases z : s = q.1
  · exact h q hq z.symm
  · exact (f.1 s hs q.1 (all_so _) z ep).elim
end A

namespace A
open PySem PySem.Spec L2 PyProof.Rows
local macro_rules | `(tactic| walk_at "A.go") => `(tactic| simp only [aSeq, aNext, aSet, aVar, atV_s, onB_b, onI_i, onII_i, onL1_i, onL2_i, it_l, it_t, it_s, it_x, ix_l, ix_t, ix_s, add_i, add_x, eq_i, eq_x, eq_b, is_b, aC, aNil, aCons, aOp, aUn, aTup, aLst, aCB, aNot, aAnd, aOr, aTst, aIfE, aAndV, aOrV, aNotV, aChn, aDrop, aRet, aRetN, aIf, agName, agNil, agCons, agTup, aAsg, aPar, aAug, aFor, aRng1, aRng2, aIter, aLc, aYes,
  aCl, aMt, aMk, aFl, aFst, aNeg, aI2, aI20, aLe, aLt, aGt, aGe, aSub, aMod, aMul, aFdv, aPow, aXor, aShl, aShr, agSub, aoN, aoS, aSl, aRev, aLen, aList, aTupOf, aLRg1, aLRg2, aAbs, aI2N, aMax, aMin, aDm, aAll, aAny, aBM, aApp, aPopAt, aPop, aClear, aRevM, aExt, aRepr, aClD, aLnSt, aIAdd, aBreak, aCont,
  aEnd, startA, List.map_cons, List.map_nil, List.cons_append, List.nil_append, List.length_cons, List.length_nil, List.replicate, List.getElem?_cons_zero, List.getElem?_cons_succ, List.set_cons_zero, List.set_cons_succ, Nat.reduceAdd, Nat.reduceSub, Nat.succ_eq_add_one, Int.reduceAdd, Int.reduceMul,
  reduceIte, Bool.false_eq_true, Bool.not_true, Bool.not_false, ite_true, ite_false])
def top (i : Nat) : Stmt := PySem.Challenge.pw_noaslong_k32_whole_rings_and_fences.main.body.getD i (.Pass ⟨0, 0, 0, 0⟩)
def d0 : He.DefD := ⟨("NoYard", some "__init__"), "__init__", "NoYard.__init__", defArgs (inClass (top 2) 0), defBody (inClass (top 2) 0), defScope (inClass (top 2) 0), [], []⟩
def d1 : He.DefD := ⟨("is_number", none), "is_number", "is_number", defArgs (top 6), defBody (top 6), defScope (top 6), [], []⟩
def d2 : He.DefD := ⟨("is_heap", none), "is_heap", "is_heap", defArgs (top 7), defBody (top 7), defScope (top 7), [], []⟩
def d3 : He.DefD := ⟨("joined", none), "joined", "joined", defArgs (top 8), defBody (top 8), defScope (top 8), [], []⟩
def d4 : He.DefD := ⟨("but", none), "but", "but", defArgs (top 9), defBody (top 9), defScope (top 9), [], []⟩
def d5 : He.DefD := ⟨("Yard", some "__init__"), "__init__", "Yard.__init__", defArgs (inClass (top 11) 0), defBody (inClass (top 11) 0), defScope (inClass (top 11) 0), [], [("nested", .int 0)]⟩
def d6 : He.DefD := ⟨("Yard", some "many"), "many", "Yard.many", defArgs (inClass (top 11) 1), defBody (inClass (top 11) 1), defScope (inClass (top 11) 1), [], []⟩
def d7 : He.DefD := ⟨("Yard", some "things"), "things", "Yard.things", defArgs (inClass (top 11) 2), defBody (inClass (top 11) 2), defScope (inClass (top 11) 2), [], []⟩
def d8 : He.DefD := ⟨("Yard", some "worth"), "worth", "Yard.worth", defArgs (inClass (top 11) 3), defBody (inClass (top 11) 3), defScope (inClass (top 11) 3), [], []⟩
def d9 : He.DefD := ⟨("Yard", some "worth_of"), "worth_of", "Yard.worth_of", defArgs (inClass (top 11) 4), defBody (inClass (top 11) 4), defScope (inClass (top 11) 4), [], []⟩
def d10 : He.DefD := ⟨("Yard", some "whole"), "whole", "Yard.whole", defArgs (inClass (top 11) 5), defBody (inClass (top 11) 5), defScope (inClass (top 11) 5), [], []⟩
def d11 : He.DefD := ⟨("Yard", some "sort_word"), "sort_word", "Yard.sort_word", defArgs (inClass (top 11) 6), defBody (inClass (top 11) 6), defScope (inClass (top 11) 6), [], []⟩
def d12 : He.DefD := ⟨("Yard", some "made_of"), "made_of", "Yard.made_of", defArgs (inClass (top 11) 7), defBody (inClass (top 11) 7), defScope (inClass (top 11) 7), [], []⟩
def d13 : He.DefD := ⟨("Yard", some "__eq__"), "__eq__", "Yard.__eq__", defArgs (inClass (top 11) 8), defBody (inClass (top 11) 8), defScope (inClass (top 11) 8), [], []⟩
def d14 : He.DefD := ⟨("Yard", some "__len__"), "__len__", "Yard.__len__", defArgs (inClass (top 11) 9), defBody (inClass (top 11) 9), defScope (inClass (top 11) 9), [], []⟩
def d15 : He.DefD := ⟨("want_heap", none), "want_heap", "want_heap", defArgs (top 12), defBody (top 12), defScope (top 12), [], []⟩
def d16 : He.DefD := ⟨("want_list", none), "want_list", "want_list", defArgs (top 13), defBody (top 13), defScope (top 13), [], []⟩
def d17 : He.DefD := ⟨("want_each", none), "want_each", "want_each", defArgs (top 14), defBody (top 14), defScope (top 14), [], []⟩
def d18 : He.DefD := ⟨("out_of", none), "out_of", "out_of", defArgs (top 16), defBody (top 16), defScope (top 16), [], []⟩
def d19 : He.DefD := ⟨("is_ring", none), "is_ring", "is_ring", defArgs (top 17), defBody (top 17), defScope (top 17), [], []⟩
def d20 : He.DefD := ⟨("is_fence", none), "is_fence", "is_fence", defArgs (top 18), defBody (top 18), defScope (top 18), [], []⟩
def d21 : He.DefD := ⟨("is_least_fence", none), "is_least_fence", "is_least_fence", defArgs (top 19), defBody (top 19), defScope (top 19), [], []⟩
def d22 : He.DefD := ⟨("are_tops", none), "are_tops", "are_tops", defArgs (top 22), defBody (top 22), defScope (top 22), [], []⟩
def d23 : He.DefD := ⟨("Lots", some "__init__"), "__init__", "Lots.__init__", defArgs (inClass (top 23) 0), defBody (inClass (top 23) 0), defScope (inClass (top 23) 0), [], []⟩
def d24 : He.DefD := ⟨("Lots", some "tops"), "tops", "Lots.tops", defArgs (inClass (top 23) 1), defBody (inClass (top 23) 1), defScope (inClass (top 23) 1), [], []⟩
def d25 : He.DefD := ⟨("Lots", some "lots"), "lots", "Lots.lots", defArgs (inClass (top 23) 2), defBody (inClass (top 23) 2), defScope (inClass (top 23) 2), [], []⟩
def d26 : He.DefD := ⟨("Lots", some "worth_of"), "worth_of", "Lots.worth_of", defArgs (inClass (top 23) 3), defBody (inClass (top 23) 3), defScope (inClass (top 23) 3), [], []⟩
def d27 : He.DefD := ⟨("Lots", some "sort_word"), "sort_word", "Lots.sort_word", defArgs (inClass (top 23) 4), defBody (inClass (top 23) 4), defScope (inClass (top 23) 4), [], []⟩
def d28 : He.DefD := ⟨("Lots", some "made_of"), "made_of", "Lots.made_of", defArgs (inClass (top 23) 5), defBody (inClass (top 23) 5), defScope (inClass (top 23) 5), [], []⟩
def d29 : He.DefD := ⟨("Lots", some "__repr__"), "__repr__", "Lots.__repr__", defArgs (inClass (top 23) 6), defBody (inClass (top 23) 6), defScope (inClass (top 23) 6), [], []⟩
def d30 : He.DefD := ⟨("Rows", some "__init__"), "__init__", "Rows.__init__", defArgs (inClass (top 26) 0), defBody (inClass (top 26) 0), defScope (inClass (top 26) 0), [], []⟩
def d31 : He.DefD := ⟨("Rows", some "rows"), "rows", "Rows.rows", defArgs (inClass (top 26) 1), defBody (inClass (top 26) 1), defScope (inClass (top 26) 1), [], []⟩
def d32 : He.DefD := ⟨("Rows", some "worth_of"), "worth_of", "Rows.worth_of", defArgs (inClass (top 26) 2), defBody (inClass (top 26) 2), defScope (inClass (top 26) 2), [], []⟩
def d33 : He.DefD := ⟨("Rows", some "sort_word"), "sort_word", "Rows.sort_word", defArgs (inClass (top 26) 3), defBody (inClass (top 26) 3), defScope (inClass (top 26) 3), [], []⟩
def d34 : He.DefD := ⟨("Rows", some "made_of"), "made_of", "Rows.made_of", defArgs (inClass (top 26) 4), defBody (inClass (top 26) 4), defScope (inClass (top 26) 4), [], []⟩
def d35 : He.DefD := ⟨("Rows", some "__repr__"), "__repr__", "Rows.__repr__", defArgs (inClass (top 26) 5), defBody (inClass (top 26) 5), defScope (inClass (top 26) 5), [], []⟩
def d36 : He.DefD := ⟨("finds_seat", none), "finds_seat", "finds_seat", defArgs (top 29), defBody (top 29), defScope (top 29), [], []⟩
def d37 : He.DefD := ⟨("seated", none), "seated", "seated", defArgs (top 30), defBody (top 30), defScope (top 30), [], []⟩
def d38 : He.DefD := ⟨("Seats", some "__init__"), "__init__", "Seats.__init__", defArgs (inClass (top 31) 0), defBody (inClass (top 31) 0), defScope (inClass (top 31) 0), [], []⟩
def d39 : He.DefD := ⟨("Seats", some "seats"), "seats", "Seats.seats", defArgs (inClass (top 31) 1), defBody (inClass (top 31) 1), defScope (inClass (top 31) 1), [], []⟩
def d40 : He.DefD := ⟨("Seats", some "rows"), "rows", "Seats.rows", defArgs (inClass (top 31) 2), defBody (inClass (top 31) 2), defScope (inClass (top 31) 2), [], []⟩
def d41 : He.DefD := ⟨("Seats", some "worth_of"), "worth_of", "Seats.worth_of", defArgs (inClass (top 31) 3), defBody (inClass (top 31) 3), defScope (inClass (top 31) 3), [], []⟩
def d42 : He.DefD := ⟨("Seats", some "sort_word"), "sort_word", "Seats.sort_word", defArgs (inClass (top 31) 4), defBody (inClass (top 31) 4), defScope (inClass (top 31) 4), [], []⟩
def d43 : He.DefD := ⟨("Seats", some "made_of"), "made_of", "Seats.made_of", defArgs (inClass (top 31) 5), defBody (inClass (top 31) 5), defScope (inClass (top 31) 5), [], []⟩
def d44 : He.DefD := ⟨("Seats", some "__repr__"), "__repr__", "Seats.__repr__", defArgs (inClass (top 31) 6), defBody (inClass (top 31) 6), defScope (inClass (top 31) 6), [], []⟩
def d45 : He.DefD := ⟨("is_pair", none), "is_pair", "is_pair", defArgs (top 34), defBody (top 34), defScope (top 34), [], []⟩
def d46 : He.DefD := ⟨("piece_of", none), "piece_of", "piece_of", defArgs (top 35), defBody (top 35), defScope (top 35), [], []⟩
def d47 : He.DefD := ⟨("Ties", some "__init__"), "__init__", "Ties.__init__", defArgs (inClass (top 36) 0), defBody (inClass (top 36) 0), defScope (inClass (top 36) 0), [], []⟩
def d48 : He.DefD := ⟨("Ties", some "places"), "places", "Ties.places", defArgs (inClass (top 36) 1), defBody (inClass (top 36) 1), defScope (inClass (top 36) 1), [], []⟩
def d49 : He.DefD := ⟨("Ties", some "pairs"), "pairs", "Ties.pairs", defArgs (inClass (top 36) 2), defBody (inClass (top 36) 2), defScope (inClass (top 36) 2), [], []⟩
def d50 : He.DefD := ⟨("Ties", some "worth_of"), "worth_of", "Ties.worth_of", defArgs (inClass (top 36) 3), defBody (inClass (top 36) 3), defScope (inClass (top 36) 3), [], []⟩
def d51 : He.DefD := ⟨("Ties", some "sort_word"), "sort_word", "Ties.sort_word", defArgs (inClass (top 36) 4), defBody (inClass (top 36) 4), defScope (inClass (top 36) 4), [], []⟩
def d52 : He.DefD := ⟨("Ties", some "made_of"), "made_of", "Ties.made_of", defArgs (inClass (top 36) 5), defBody (inClass (top 36) 5), defScope (inClass (top 36) 5), [], []⟩
def d53 : He.DefD := ⟨("Ties", some "__repr__"), "__repr__", "Ties.__repr__", defArgs (inClass (top 36) 6), defBody (inClass (top 36) 6), defScope (inClass (top 36) 6), [], []⟩
def d54 : He.DefD := ⟨("_law_pot", none), "_law_pot", "_law_pot", defArgs (top 38), defBody (top 38), defScope (top 38), [], []⟩
def d55 : He.DefD := ⟨("_law_take", none), "_law_take", "_law_take", defArgs (top 39), defBody (top 39), defScope (top 39), [], []⟩
def d56 : He.DefD := ⟨("_law_among", none), "_law_among", "_law_among", defArgs (top 40), defBody (top 40), defScope (top 40), [], []⟩
def d57 : He.DefD := ⟨("_law_shuffled", none), "_law_shuffled", "_law_shuffled", defArgs (top 41), defBody (top 41), defScope (top 41), [], []⟩
def d58 : He.DefD := ⟨("_law_pairs", none), "_law_pairs", "_law_pairs", defArgs (top 42), defBody (top 42), defScope (top 42), [], []⟩
def d59 : He.DefD := ⟨("_law_seat_rows", none), "_law_seat_rows", "_law_seat_rows", defArgs (top 43), defBody (top 43), defScope (top 43), [], []⟩
def d60 : He.DefD := ⟨("_law_with_alike", none), "_law_with_alike", "_law_with_alike", defArgs (top 44), defBody (top 44), defScope (top 44), [], []⟩
def d61 : He.DefD := ⟨("_law_spec", none), "_law_spec", "_law_spec", defArgs (top 45), defBody (top 45), defScope (top 45), [], []⟩
def d62 : He.DefD := ⟨("_law_made", none), "_law_made", "_law_made", defArgs (top 46), defBody (top 46), defScope (top 46), [], []⟩
def d63 : He.DefD := ⟨("_law_joined_places", none), "_law_joined_places", "_law_joined_places", defArgs (top 47), defBody (top 47), defScope (top 47), [], []⟩
def d64 : He.DefD := ⟨("_law_free_rows", none), "_law_free_rows", "_law_free_rows", defArgs (top 48), defBody (top 48), defScope (top 48), [], []⟩
def d65 : He.DefD := ⟨("_law_in_lots", none), "_law_in_lots", "_law_in_lots", defArgs (top 49), defBody (top 49), defScope (top 49), [], []⟩
def d66 : He.DefD := ⟨("_law_finds", none), "_law_finds", "_law_finds", defArgs (top 50), defBody (top 50), defScope (top 50), [], []⟩
def d67 : He.DefD := ⟨("_law_sitting", none), "_law_sitting", "_law_sitting", defArgs (top 51), defBody (top 51), defScope (top 51), [], []⟩
def d68 : He.DefD := ⟨("_law_worth", none), "_law_worth", "_law_worth", defArgs (top 52), defBody (top 52), defScope (top 52), [], []⟩
def d69 : He.DefD := ⟨("_law_heaps_of", none), "_law_heaps_of", "_law_heaps_of", defArgs (top 53), defBody (top 53), defScope (top 53), [], []⟩
def d70 : He.DefD := ⟨("_law_worths", none), "_law_worths", "_law_worths", defArgs (top 54), defBody (top 54), defScope (top 54), [], []⟩
def d71 : He.DefD := ⟨("_law_without", none), "_law_without", "_law_without", defArgs (top 55), defBody (top 55), defScope (top 55), [], []⟩
def d72 : He.DefD := ⟨("_law_is_bound", none), "_law_is_bound", "_law_is_bound", defArgs (top 56), defBody (top 56), defScope (top 56), [], []⟩
def d73 : He.DefD := ⟨("_law_due", none), "_law_due", "_law_due", defArgs (top 57), defBody (top 57), defScope (top 57), [], []⟩
def d74 : He.DefD := ⟨("law", none), "law", "law", defArgs (top 58), defBody (top 58), defScope (top 58), [], []⟩
def fn0 : List He.DefD := [d0, d1, d2, d3, d4, d5, d6, d7, d8, d9, d10, d11, d12, d13, d14, d15, d16, d17, d18, d19, d20, d21, d22, d23, d24, d25, d26, d27, d28, d29, d30, d31, d32, d33, d34, d35, d36, d37, d38, d39, d40, d41, d42, d43, d44, d45, d46, d47, d48, d49, d50, d51, d52, d53, d54, d55, d56, d57, d58, d59, d60, d61, d62, d63, d64, d65, d66, d67, d68, d69, d70, d71, d72, d73, d74]
def fn : List He.DefD := fn0
def fc0 : List Chk := [
  kFree "int",
  kSorts [.ties, .rows, .lots, .seats],
  kIsi "Ties",
  kIsi "Rows",
  kIsi "Lots",
  kIsi "Seats",
  kFree "isinstance",
  kFree "bool",
  kFree "list",
  kFree "all",
  kFree "len",
  kFree "set",
  kFree "sorted",
  kFree "range",
  kCls "Ties",
  kNo "Ties" "numbers",
  kCls "Rows",
  kNo "Rows" "numbers",
  kCls "Lots",
  kNo "Lots" "numbers",
  kCls "Seats",
  kNo "Seats" "numbers",
  kNo "Ties" "nested",
  kNo "Rows" "nested",
  kNo "Lots" "nested",
  kNo "Seats" "nested",
  kInt "MOST_THINGS" 24,
  kInt "MOST_LOTS" 8,
  kNo "Ties" "own_tops",
  kNo "Rows" "own_tops",
  kNo "Lots" "own_tops",
  kNo "Seats" "own_tops",
  kNo "Ties" "own_lots",
  kNo "Rows" "own_lots",
  kNo "Lots" "own_lots",
  kNo "Seats" "own_lots",
  kFree "zip",
  kFree "min",
  kFree "sum",
  kInt "MOST_SUMS" 4096,
  kNo "Ties" "own_rows",
  kNo "Rows" "own_rows",
  kNo "Lots" "own_rows",
  kNo "Seats" "own_rows",
  kInt "MOST_SEATS" 12,
  kNo "Ties" "own_seats",
  kNo "Rows" "own_seats",
  kNo "Lots" "own_seats",
  kNo "Seats" "own_seats",
  kFree "tuple",
  kInt "MOST_PLACES" 12,
  kNo "Ties" "own_places",
  kNo "Rows" "own_places",
  kNo "Lots" "own_places",
  kNo "Seats" "own_places",
  kNo "Ties" "own_pairs",
  kNo "Rows" "own_pairs",
  kNo "Lots" "own_pairs",
  kNo "Seats" "own_pairs",
  kFree "abs",
  kFree "max",
  kFree "divmod",
  kFree "enumerate",
  kFree "any",
  kFree "repr",
  kK4,
  kGlo "is_number",
  kGlo "is_heap",
  kGlo "joined",
  kGlo "but",
  kClm "Yard" "__init__" ("Yard", some "__init__"),
  kGlo "Yard",
  kMeth "Ties" "many" ("Yard", some "many"),
  kMeth "Rows" "many" ("Yard", some "many"),
  kMeth "Lots" "many" ("Yard", some "many"),
  kMeth "Seats" "many" ("Yard", some "many"),
  kMeth "Ties" "things" ("Yard", some "things"),
  kMeth "Rows" "things" ("Yard", some "things"),
  kMeth "Lots" "things" ("Yard", some "things"),
  kMeth "Seats" "things" ("Yard", some "things"),
  kMeth "Lots" "worth_of" ("Lots", some "worth_of"),
  kMeth "Rows" "worth_of" ("Rows", some "worth_of"),
  kGlo "finds_seat",
  kGlo "seated",
  kMeth "Seats" "worth_of" ("Seats", some "worth_of"),
  kGlo "piece_of",
  kMeth "Ties" "worth_of" ("Ties", some "worth_of"),
  kMeth "Ties" "whole" ("Yard", some "whole"),
  kMeth "Rows" "whole" ("Yard", some "whole"),
  kMeth "Lots" "whole" ("Yard", some "whole"),
  kMeth "Seats" "whole" ("Yard", some "whole"),
  kGlo "want_heap",
  kGlo "want_list",
  kGlo "want_each",
  kGlo "out_of",
  kGlo "is_ring",
  kGlo "is_fence",
  kGlo "is_least_fence",
  kGlo "are_tops",
  kMk "Lots" ("Lots", some "__init__"),
  kGlo "Lots",
  kMk "Rows" ("Rows", some "__init__"),
  kGlo "Rows",
  kMk "Seats" ("Seats", some "__init__"),
  kGlo "Seats",
  kGlo "is_pair",
  kMk "Ties" ("Ties", some "__init__"),
  kGlo "Ties",
  kGlo "_law_pot",
  kGlo "_law_take",
  kGlo "_law_shuffled",
  kGlo "_law_pairs",
  kGlo "_law_seat_rows",
  kGlo "_law_with_alike",
  kGlo "_law_spec",
  kGlo "_law_made",
  kGlo "_law_joined_places",
  kGlo "_law_free_rows",
  kGlo "_law_in_lots",
  kGlo "_law_finds",
  kGlo "_law_sitting",
  kGlo "_law_worth",
  kGlo "_law_heaps_of",
  kGlo "_law_worths",
  kGlo "_law_without",
  kGlo "_law_is_bound",
  kGlo "_law_due",
  kGlo "law"]
def fc : List Chk := fc0
def nm0 : List PySem.Str := ["YardError", "NoYard", "NoHeap", "MOST_THINGS", "is_number", "is_heap", "joined", "but", "Yard", "want_heap", "want_list", "want_each", "out_of", "is_ring", "is_fence", "is_least_fence", "MOST_LOTS", "are_tops", "Lots", "MOST_SUMS"]
def nm1 : List PySem.Str := ["Rows", "MOST_SEATS", "finds_seat", "seated", "Seats", "MOST_PLACES", "is_pair", "piece_of", "Ties", "_law_pot", "_law_take", "_law_among", "_law_shuffled", "_law_pairs", "_law_seat_rows", "_law_with_alike", "_law_spec", "_law_made", "_law_joined_places", "_law_free_rows"]
def nm2 : List PySem.Str := ["_law_in_lots", "_law_finds", "_law_sitting", "_law_worth", "_law_heaps_of", "_law_worths", "_law_without", "_law_is_bound", "_law_due"]
def names : List PySem.Str := nm0 ++ nm1 ++ nm2
abbrev R : PySem.W.OpenRow := PySem.W.OpenLaw.row PySem.Challenge.rw_noaslong_k32_whole_rings_and_fences
abbrev hk : PySem.W.Hook := hookY 6 fc fn
def ob (s : PySem.W.SharedT) : He.AlD := obYG 6 fc fn (HandSHeadRun.getT s)
theorem ob_ok (s : PySem.W.SharedT) : ob s = hk.obs s.abs := obYG_eq (HandSHeadRun.getT_eq s)
theorem run1_ (w : World) : Run1 R 40000 w := by
  intro os
  kernel_rfl
theorem run2_ (w : World) : Run2 R (PySem.W.view R.prog [58]) 40000 names w := by
  intro os
  kernel_rfl
theorem runP0_ (w : World) : RunQ R 40000 w 6 fc0 fn0 := by
  intro os
  kernel_rfl
theorem run3_ (w : World) : Run3 R hk ob 40000 w := (runP0_ w)
theorem run_ (w : World) : HandSHeadRun.RunEq R (PySem.W.view R.prog [58]) hk ob 40000 names w := runEq_of (run1_ w) (run2_ w) (run3_ w)
end A
section
open PySem PySem.W PySem.Calls PyProof.Rows
/-- the law, but for the walk -/
theorem A.pre_ (F : ∀ (w : World) (mg : PySem.Str → Option Value) (g : Addr) (h : Heap), (∃ K : PySem.W.Frag, K.In h ∧ A.SaysX A.fc A.fn K) → h.Ns mainGlobals mg → mg ("law" : PySem.Str) = some (.ref g) → ∃ (K : PySem.W.Frag) (fd : FuncData) (sp : A.SpA), K.In h ∧ (∀ (s : Shared) (u : Value), PySem.BindsTo s fd ⟨[u], []⟩ [(("_law_script" : PySem.Str), u)]) ∧
      (∀ ns : List Int, ns.length ≤ 63 → A.Bits ns → sp [.scr ns] A.noS (fun d _ => d = .bl true) A.noX) ∧ ∀ base : Heap, K.In base → base.Ns mainGlobals mg → A.FnA A.R.prog w K mg base 19 g fd ["_law_script"] sp) : PySem.Challenge.rw_noaslong_k32_whole_rings_and_fences.Holds := by
  w_on; o_law
  refine HandSHeadRun.head_any (r := A.R) (q := view A.R.prog [58]) (H := A.hk) (ob := A.ob) (M := 40000) (loose := A.names) (d := HandSHeadRun.topDef A.R.prog 58) (kwd := []) A.ob_ok
    (by kernel_rfl) (fun s => by kernel_rfl) A.run_ (by kernel_rfl) (by kernel_rfl) (by kernel_rfl) (by rfl) (by first | assumption | decide +kernel) (by decide +kernel) ⟨rfl, rfl, rfl, rfl, rfl, by decide +kernel⟩ ?hw ?hc
  case hw => w_witness2
  case hc =>
    refine A.walk_G (l := PySem.Challenge.rw_noaslong_k32_whole_rings_and_fences) (n := 63) (k := 19) (x := "_law_script") rfl (by decide) (by kernel_rfl) ⟨rfl, by decide, by decide⟩ ?F
    intro w mg g h Y G hmg0
    obtain ⟨K, KX, c⟩ := Y
    have hmg : mg ("law" : PySem.Str) = some (.ref g) := by
      have e : (HandSHeadRun.topDef A.R.prog 58).name = ("law" : PySem.Str) := by kernel_rfl
      rw [← e]
      exact hmg0
    obtain ⟨K', fd, sp, KX', hb, hs, hF⟩ := F w mg g h ⟨K, KX, c⟩ G hmg
    exact ⟨K', fd, sp, KX', hb, hs, hF⟩
end

namespace A
open PySem PySem.Spec L2 PyProof.Rows
local macro_rules | `(tactic| walk_at "A.go") => `(tactic| simp only [aSeq, aNext, aSet, aVar, atV_s, onB_b, onI_i, onII_i, onL1_i, onL2_i, it_l, it_t, it_s, it_x, ix_l, ix_t, ix_s, add_i, add_x, eq_i, eq_x, eq_b, is_b, aC, aNil, aCons, aOp, aUn, aTup, aLst, aCB, aNot, aAnd, aOr, aTst, aIfE, aAndV, aOrV, aNotV, aChn, aDrop, aRet, aRetN, aIf, agName, agNil, agCons, agTup, aAsg, aPar, aAug, aFor, aRng1, aRng2, aIter, aLc, aYes,
  aCl, aMt, aMk, aFl, aFst, aNeg, aI2, aI20, aLe, aLt, aGt, aGe, aSub, aMod, aMul, aFdv, aPow, aXor, aShl, aShr, agSub, aoN, aoS, aSl, aRev, aLen, aList, aTupOf, aLRg1, aLRg2, aAbs, aI2N, aMax, aMin, aDm, aAll, aAny, aBM, aApp, aPopAt, aPop, aClear, aRevM, aExt, aRepr, aClD, aLnSt, aIAdd, aBreak, aCont,
  aEnd, startA, List.map_cons, List.map_nil, List.cons_append, List.nil_append, List.length_cons, List.length_nil, List.replicate, List.getElem?_cons_zero, List.getElem?_cons_succ, List.set_cons_zero, List.set_cons_succ, Nat.reduceAdd, Nat.reduceSub, Nat.succ_eq_add_one, Int.reduceAdd, Int.reduceMul,
  reduceIte, Bool.false_eq_true, Bool.not_true, Bool.not_false, ite_true, ite_false])
def sitD (M : Mt) : List (Key × D) := M.map fun p => (.inl p.1, .int p.2)
structure FndIn (n : Nat) (rs : List (List Int)) (f : Nat) (t : Int) (M : Mt) (tr : List Int) : Prop where
  rows : ∀ r ∈ rs, Heap_ n r
  n12 : n ≤ 12
  z : rs.length ≤ 24
  ht : InR rs.length t
  hM : ∀ p ∈ M, InR rs.length p.2
  nd : tr.Nodup
  rg : ∀ s ∈ tr, InR n s
  fuel : n < tr.length + f
  beg : Beg (rowAt rs) tr M t
def FndQ (n : Nat) (rs : List (List Int)) (S : Sto) (a b : Addr) (t : Int) (M : Mt) (tr : List Int) (Q : KD) : Prop :=
  (∀ (M' : Mt) (tr' : List Int), Suc (rowAt rs) tr M t M' → (∀ p ∈ M', InR rs.length p.2) → tr'.Nodup → (∀ s ∈ tr', InR n s) → Q (.bl true) (put (put S a (.dct (sitD M'))) b (.lst (tr'.map .int)))) ∧
  ∀ tr' : List Int, Fai (rowAt rs) tr M (rowAt rs t) tr' → tr'.Nodup → (∀ s ∈ tr', InR n s) → Q (.bl false) (put S b (.lst (tr'.map .int)))
def sp_is_number (K : PySem.W.Frag) : SpA := fun ds S Q E => ∃ i m, ds = [.int i, .int m] ∧ Q (.bl (decide (0 ≤ i) && decide (i < m))) S
theorem len_is_number (K : PySem.W.Frag) : ∀ ds S Q E, sp_is_number K ds S Q E → ds.length = 2 := by
  rintro ds S Q E ⟨_, _, rfl, _⟩
  rfl
def sp_is_heap (K : PySem.W.Frag) : SpA := fun ds S Q E => ∃ d m hp, ds = [d, .int (m : Nat)] ∧ asL S d = some (List.map D.int hp) ∧ Heap_ m hp ∧ m ≤ 24 ∧ Q (.bl true) S
theorem len_is_heap (K : PySem.W.Frag) : ∀ ds S Q E, sp_is_heap K ds S Q E → ds.length = 2 := by
  rintro ds S Q E ⟨_, _, _, rfl, _⟩
  rfl
def sp_joined (K : PySem.W.Frag) : SpA := fun ds S Q E => ∃ d e l m, ds = [d, e] ∧ asL S d = some (List.map D.int l) ∧ asL S e = some (List.map D.int m) ∧ l.length + m.length < 64 ∧ ∀ ns : List Int, ns.Pairwise (· < ·) → (∀ k, k ∈ ns ↔ k ∈ l ∨ k ∈ m) → NewL (List.map D.int ns) S Q
theorem len_joined (K : PySem.W.Frag) : ∀ ds S Q E, sp_joined K ds S Q E → ds.length = 2 := by
  rintro ds S Q E ⟨_, _, _, _, rfl, _⟩
  rfl
def sp_Yard_init (K : PySem.W.Frag) : SpA := fun ds S Q E => ∃ y n C, ds = [.own y, .int (n : Nat), .int 0] ∧ S y = some (.ins C []) ∧ okY K C ∧ n ≤ 24 ∧ Q .non (put S y (.ins C (Yd.base n)))
theorem len_Yard_init (K : PySem.W.Frag) : ∀ ds S Q E, sp_Yard_init K ds S Q E → ds.length = 3 := by
  rintro ds S Q E ⟨_, _, _, rfl, _⟩
  rfl
def sp_Yard_many (K : PySem.W.Frag) : SpA := fun ds S Q E => ∃ y u, ds = [.own y] ∧ IsY K S y u ∧ Q (.int u.len) S
theorem len_Yard_many (K : PySem.W.Frag) : ∀ ds S Q E, sp_Yard_many K ds S Q E → ds.length = 1 := by
  rintro ds S Q E ⟨_, _, rfl, _⟩
  rfl
def sp_Yard_things (K : PySem.W.Frag) : SpA := fun ds S Q E => ∃ y u, ds = [.own y] ∧ IsY K S y u ∧ NewL ((rng u.len).map .int) S Q
theorem len_Yard_things (K : PySem.W.Frag) : ∀ ds S Q E, sp_Yard_things K ds S Q E → ds.length = 1 := by
  rintro ds S Q E ⟨_, _, rfl, _⟩
  rfl
def sp_Lots_worth_of (K : PySem.W.Frag) : SpA := fun ds S Q E => ∃ y ts ls d hp, ds = [.own y, d] ∧ IsY K S y (.lots ts ls) ∧ asL S d = some (List.map D.int hp) ∧ (∀ i ∈ hp, InR ls.length i) ∧ hp.length ≤ 24 ∧ Q (.int ((Yd.lots ts ls).worth hp)) S
theorem len_Lots_worth_of (K : PySem.W.Frag) : ∀ ds S Q E, sp_Lots_worth_of K ds S Q E → ds.length = 2 := by
  rintro ds S Q E ⟨_, _, _, _, _, rfl, _⟩
  rfl
def sp_Rows_worth_of (K : PySem.W.Frag) : SpA := fun ds S Q E => ∃ y rs d hp, ds = [.own y, d] ∧ IsY K S y (.rows rs) ∧ asL S d = some (List.map D.int hp) ∧ (∀ i ∈ hp, InR rs.length i) ∧ Q (.int ((Yd.rows rs).worth hp)) S
theorem len_Rows_worth_of (K : PySem.W.Frag) : ∀ ds S Q E, sp_Rows_worth_of K ds S Q E → ds.length = 2 := by
  rintro ds S Q E ⟨_, _, _, _, rfl, _⟩
  rfl
def sp_finds_seat (K : PySem.W.Frag) (f : Nat) : SpA := fun ds S Q E => ∃ rs t a b M tr n, ds = [.lst (List.map iD rs), .int t, .own a, .own b] ∧ S a = some (.dct (sitD M)) ∧ S b = some (.lst (List.map D.int tr)) ∧ a ≠ b ∧ FndIn n rs f t M tr ∧ FndQ n rs S a b t M tr Q
theorem len_finds_seat (K : PySem.W.Frag) (f : Nat) : ∀ ds S Q E, sp_finds_seat K f ds S Q E → ds.length = 4 := by
  rintro ds S Q E ⟨_, _, _, _, _, _, _, rfl, _⟩
  rfl
def sp_seated (K : PySem.W.Frag) : SpA := fun ds S Q E => ∃ rs n e hp, ds = [.lst (List.map iD rs), e] ∧ asL S e = some (List.map D.int hp) ∧ (Yd.seats n rs).Ok ∧ hp.Nodup ∧ (∀ i ∈ hp, InR rs.length i) ∧ ∀ a M, S a = none → MOk (rowAt rs) hp M → M.length = worthS (hp.map (rowAt rs)) → Q (.own a) (put S a (.dct (sitD M)))
theorem len_seated (K : PySem.W.Frag) : ∀ ds S Q E, sp_seated K ds S Q E → ds.length = 2 := by
  rintro ds S Q E ⟨_, _, _, _, rfl, _⟩
  rfl
def sp_Seats_worth_of (K : PySem.W.Frag) : SpA := fun ds S Q E => ∃ y n rs d hp, ds = [.own y, d] ∧ IsY K S y (.seats n rs) ∧ asL S d = some (List.map D.int hp) ∧ hp.Nodup ∧ (∀ i ∈ hp, InR rs.length i) ∧ Q (.int ((Yd.seats n rs).worth hp)) S
theorem len_Seats_worth_of (K : PySem.W.Frag) : ∀ ds S Q E, sp_Seats_worth_of K ds S Q E → ds.length = 2 := by
  rintro ds S Q E ⟨_, _, _, _, _, rfl, _⟩
  rfl
def sp_piece_of (K : PySem.W.Frag) : SpA := fun ds S Q E => ∃ a i n vs rt dep, ds = [.own a, .int i] ∧ S a = some (.lst (List.map D.int vs)) ∧ UF n vs rt dep ∧ InR n i ∧ Q (.int (rt i)) S
theorem len_piece_of (K : PySem.W.Frag) : ∀ ds S Q E, sp_piece_of K ds S Q E → ds.length = 2 := by
  rintro ds S Q E ⟨_, _, _, _, _, _, rfl, _⟩
  rfl
def sp_Ties_worth_of (K : PySem.W.Frag) : SpA := fun ds S Q E => ∃ y n es d hp, ds = [.own y, d] ∧ IsY K S y (.ties n es) ∧ asL S d = some (List.map D.int hp) ∧ (∀ i ∈ hp, InR es.length i) ∧ hp.length ≤ 24 ∧ Q (.int ((Yd.ties n es).worth hp)) S
theorem len_Ties_worth_of (K : PySem.W.Frag) : ∀ ds S Q E, sp_Ties_worth_of K ds S Q E → ds.length = 2 := by
  rintro ds S Q E ⟨_, _, _, _, _, rfl, _⟩
  rfl
def sp_Yard_whole (K : PySem.W.Frag) : SpA := fun ds S Q E => ∃ y u, ds = [.own y] ∧ IsY K S y u ∧ Q (.int (u.worth (rng u.len))) S
theorem len_Yard_whole (K : PySem.W.Frag) : ∀ ds S Q E, sp_Yard_whole K ds S Q E → ds.length = 1 := by
  rintro ds S Q E ⟨_, _, rfl, _⟩
  rfl
def sp_want_heap (K : PySem.W.Frag) : SpA := fun ds S Q E => ∃ y u d hp, ds = [.own y, d] ∧ IsY K S y u ∧ asL S d = some (List.map D.int hp) ∧ Heap_ u.len hp ∧ Q .non S
theorem len_want_heap (K : PySem.W.Frag) : ∀ ds S Q E, sp_want_heap K ds S Q E → ds.length = 2 := by
  rintro ds S Q E ⟨_, _, _, _, rfl, _⟩
  rfl
def sp_want_list (K : PySem.W.Frag) : SpA := fun ds S Q E => ∃ d l, ds = [d] ∧ asL S d = some l ∧ l.length ≤ 24 ∧ Q .non S
theorem len_want_list (K : PySem.W.Frag) : ∀ ds S Q E, sp_want_list K ds S Q E → ds.length = 1 := by
  rintro ds S Q E ⟨_, _, rfl, _⟩
  rfl
def sp_want_each (K : PySem.W.Frag) : SpA := fun ds S Q E => ∃ d bs, ds = [d] ∧ asL S d = some (List.map D.bl bs) ∧ bs.all id = true ∧ Q .non S
theorem len_want_each (K : PySem.W.Frag) : ∀ ds S Q E, sp_want_each K ds S Q E → ds.length = 1 := by
  rintro ds S Q E ⟨_, _, rfl, _⟩
  rfl
def sp_adds (K : PySem.W.Frag) : SpA := fun ds S Q E => ∃ y u d hp i, ds = [.own y, d, .int i] ∧ IsY K S y u ∧ asL S d = some (List.map D.int hp) ∧ Heap_ u.len hp ∧ InR u.len i ∧ Q (.bl (u.adds hp i)) S
def sp_are_tops (K : PySem.W.Frag) : SpA := fun ds S Q E => ∃ d ts, ds = [d] ∧ asL S d = some (List.map nD ts) ∧ ts.length ≤ 8 ∧ (∀ t ∈ ts, t ≤ 24) ∧ Q (.bl true) S
theorem len_are_tops (K : PySem.W.Frag) : ∀ ds S Q E, sp_are_tops K ds S Q E → ds.length = 1 := by
  rintro ds S Q E ⟨_, _, rfl, _⟩
  rfl
def sp_Lots_init (K : PySem.W.Frag) : SpA := fun ds S Q E => ∃ y d e ts ls, ds = [.own y, d, e] ∧ S y = some (.ins (So.lots.cls K) []) ∧ asL S d = some (List.map nD ts) ∧ asL S e = some (List.map nD ls) ∧ d ≠ .own y ∧ e ≠ .own y ∧ (Yd.lots ts ls).Ok ∧ So.lots ∈ sorts K ∧ Q .non (put S y (.ins (So.lots.cls K) (Yd.lots ts ls).flds))
theorem len_Lots_init (K : PySem.W.Frag) : ∀ ds S Q E, sp_Lots_init K ds S Q E → ds.length = 3 := by
  rintro ds S Q E ⟨_, _, _, _, _, rfl, _⟩
  rfl
def sp_Rows_init (K : PySem.W.Frag) : SpA := fun ds S Q E => ∃ y d rs, ds = [.own y, d] ∧ S y = some (.ins (So.rows.cls K) []) ∧ asL S d = some (List.map nD rs) ∧ d ≠ .own y ∧ (Yd.rows rs).Ok ∧ So.rows ∈ sorts K ∧ Q .non (put S y (.ins (So.rows.cls K) (Yd.rows rs).flds))
theorem len_Rows_init (K : PySem.W.Frag) : ∀ ds S Q E, sp_Rows_init K ds S Q E → ds.length = 2 := by
  rintro ds S Q E ⟨_, _, _, rfl, _⟩
  rfl
def sp_Seats_init (K : PySem.W.Frag) : SpA := fun ds S Q E => ∃ y n d rs, ds = [.own y, .int (n : Nat), d] ∧ S y = some (.ins (So.seats.cls K) []) ∧ asL S d = some (List.map iD rs) ∧ d ≠ .own y ∧ (Yd.seats n rs).Ok ∧ So.seats ∈ sorts K ∧ Q .non (put S y (.ins (So.seats.cls K) (Yd.seats n rs).flds))
theorem len_Seats_init (K : PySem.W.Frag) : ∀ ds S Q E, sp_Seats_init K ds S Q E → ds.length = 3 := by
  rintro ds S Q E ⟨_, _, _, _, rfl, _⟩
  rfl
def sp_is_pair (K : PySem.W.Frag) : SpA := fun ds S Q E => ∃ e n, ds = [prD e, .int (n : Nat)] ∧ InR n e.1 ∧ InR n e.2 ∧ Q (.bl true) S
theorem len_is_pair (K : PySem.W.Frag) : ∀ ds S Q E, sp_is_pair K ds S Q E → ds.length = 2 := by
  rintro ds S Q E ⟨_, _, rfl, _⟩
  rfl
def sp_Ties_init (K : PySem.W.Frag) : SpA := fun ds S Q E => ∃ y n d es, ds = [.own y, .int (n : Nat), d] ∧ S y = some (.ins (So.ties.cls K) []) ∧ asL S d = some (List.map prD es) ∧ d ≠ .own y ∧ (Yd.ties n es).Ok ∧ So.ties ∈ sorts K ∧ Q .non (put S y (.ins (So.ties.cls K) (Yd.ties n es).flds))
theorem len_Ties_init (K : PySem.W.Frag) : ∀ ds S Q E, sp_Ties_init K ds S Q E → ds.length = 3 := by
  rintro ds S Q E ⟨_, _, _, _, rfl, _⟩
  rfl
def sp_pairs (K : PySem.W.Frag) : SpA := fun ds S Q E => ∃ p n m, ds = [.own p, .int (n : Nat), .int (m : Nat)] ∧ S p = some .pot ∧ 1 ≤ n ∧ n ≤ 12 ∧ m ≤ 24 ∧ ∀ es, TiesIn n es → es.length = m → Q (.lst (List.map prD es)) S
theorem len_pairs (K : PySem.W.Frag) : ∀ ds S Q E, sp_pairs K ds S Q E → ds.length = 3 := by
  rintro ds S Q E ⟨_, _, _, rfl, _⟩
  rfl
def sp_seat_rows (K : PySem.W.Frag) : SpA := fun ds S Q E => ∃ p n m, ds = [.own p, .int (n : Nat), .int (m : Nat)] ∧ S p = some .pot ∧ n ≤ 12 ∧ m ≤ 24 ∧ ∀ rs : List (List Int), rs.length = m → (∀ r ∈ rs, Heap_ n r) → Q (.lst (List.map iD rs)) S
theorem len_seat_rows (K : PySem.W.Frag) : ∀ ds S Q E, sp_seat_rows K ds S Q E → ds.length = 3 := by
  rintro ds S Q E ⟨_, _, _, rfl, _⟩
  rfl
def sp_with_alike (K : PySem.W.Frag) : SpA := fun ds S Q E => ∃ p l, ds = [.own p, .lst l] ∧ S p = some .pot ∧ l.length ≤ 24 ∧ ∀ l' : List D, l'.length = l.length → (∀ x ∈ l', x ∈ l) → Q (.lst l') S
theorem len_with_alike (K : PySem.W.Frag) : ∀ ds S Q E, sp_with_alike K ds S Q E → ds.length = 2 := by
  rintro ds S Q E ⟨_, _, rfl, _⟩
  rfl
def sp_spec (K : PySem.W.Frag) : SpA := fun ds S Q E => ∃ p m, ds = [.own p, .int (m : Nat)] ∧ S p = some .pot ∧ m ≤ 24 ∧ ∀ u : Yd, u.Ok → u.len ≤ m → Q (specD u) S
theorem len_spec (K : PySem.W.Frag) : ∀ ds S Q E, sp_spec K ds S Q E → ds.length = 2 := by
  rintro ds S Q E ⟨_, _, rfl, _⟩
  rfl
def sp_made (K : PySem.W.Frag) : SpA := fun ds S Q E => ∃ u, ds = [specD u] ∧ u.Ok ∧ K4 K ∧ ∀ y, S y = none → Q (.own y) (put S y (.ins (u.cls K) u.flds))
theorem len_made (K : PySem.W.Frag) : ∀ ds S Q E, sp_made K ds S Q E → ds.length = 1 := by
  rintro ds S Q E ⟨_, rfl, _⟩
  rfl
def sp_joined_places (K : PySem.W.Frag) : SpA := fun ds S Q E => ∃ n d es, ds = [.int (n : Nat), d] ∧ asL S d = some (List.map prD es) ∧ n ≤ 12 ∧ TiesIn n es ∧ Q (.int (worthT n es)) S
theorem len_joined_places (K : PySem.W.Frag) : ∀ ds S Q E, sp_joined_places K ds S Q E → ds.length = 2 := by
  rintro ds S Q E ⟨_, _, _, rfl, _⟩
  rfl
def sp_free_rows (K : PySem.W.Frag) : SpA := fun ds S Q E => ∃ d rs, ds = [d] ∧ asL S d = some (List.map nD rs) ∧ rs.length ≤ 24 ∧ Q (.int (worthR rs)) S
theorem len_free_rows (K : PySem.W.Frag) : ∀ ds S Q E, sp_free_rows K ds S Q E → ds.length = 1 := by
  rintro ds S Q E ⟨_, _, rfl, _⟩
  rfl
def sp_in_lots (K : PySem.W.Frag) : SpA := fun ds S Q E => ∃ d e ts ls, ds = [d, e] ∧ asL S d = some (List.map nD ts) ∧ asL S e = some (List.map nD ls) ∧ Q (.int (worthL ts ls : Nat)) S
theorem len_in_lots (K : PySem.W.Frag) : ∀ ds S Q E, sp_in_lots K ds S Q E → ds.length = 2 := by
  rintro ds S Q E ⟨_, _, _, _, rfl, _⟩
  rfl
def sp_finds (K : PySem.W.Frag) (f : Nat) : SpA := fun ds S Q E => ∃ rs t a b M tr n, ds = [.int t, .lst (List.map iD rs), .own a, .own b] ∧ S a = some (.dct (sitD M)) ∧ S b = some (.lst (List.map D.int tr)) ∧ a ≠ b ∧ FndIn n rs f t M tr ∧ FndQ n rs S a b t M tr Q
theorem len_finds (K : PySem.W.Frag) (f : Nat) : ∀ ds S Q E, sp_finds K f ds S Q E → ds.length = 4 := by
  rintro ds S Q E ⟨_, _, _, _, _, _, _, rfl, _⟩
  rfl
def sp_sitting (K : PySem.W.Frag) : SpA := fun ds S Q E => ∃ rs n, ds = [.lst (List.map iD rs)] ∧ (Yd.seats n rs).Ok ∧ Q (.int (worthS rs : Nat)) S
theorem len_sitting (K : PySem.W.Frag) : ∀ ds S Q E, sp_sitting K ds S Q E → ds.length = 1 := by
  rintro ds S Q E ⟨_, _, rfl, _⟩
  rfl
def sp_worth (K : PySem.W.Frag) : SpA := fun ds S Q E => ∃ u d hp, ds = [specD u, d] ∧ u.Ok ∧ asL S d = some (List.map D.int hp) ∧ (∀ i ∈ hp, InR u.len i) ∧ hp.length ≤ 24 ∧ Q (.int (u.worth hp)) S
theorem len_worth (K : PySem.W.Frag) : ∀ ds S Q E, sp_worth K ds S Q E → ds.length = 2 := by
  rintro ds S Q E ⟨_, _, _, rfl, _⟩
  rfl
def fam_worth_of (K : PySem.W.Frag) : Addr → SpA := famS [(He.ga K "Ties", sp_Ties_worth_of K), (He.ga K "Rows", sp_Rows_worth_of K), (He.ga K "Lots", sp_Lots_worth_of K), (He.ga K "Seats", sp_Seats_worth_of K)]
theorem fam_worth_of_Ties (K : PySem.W.Frag) : ∀ ds S Q E, fam_worth_of K (He.ga K "Ties") ds S Q E → sp_Ties_worth_of K ds S Q E := fun ds S Q E h => h (He.ga K "Ties", sp_Ties_worth_of K) (by simp) rfl
theorem fam_worth_of_Rows (K : PySem.W.Frag) : ∀ ds S Q E, fam_worth_of K (He.ga K "Rows") ds S Q E → sp_Rows_worth_of K ds S Q E := fun ds S Q E h => h (He.ga K "Rows", sp_Rows_worth_of K) (by simp) rfl
theorem fam_worth_of_Lots (K : PySem.W.Frag) : ∀ ds S Q E, fam_worth_of K (He.ga K "Lots") ds S Q E → sp_Lots_worth_of K ds S Q E := fun ds S Q E h => h (He.ga K "Lots", sp_Lots_worth_of K) (by simp) rfl
theorem fam_worth_of_Seats (K : PySem.W.Frag) : ∀ ds S Q E, fam_worth_of K (He.ga K "Seats") ds S Q E → sp_Seats_worth_of K ds S Q E := fun ds S Q E h => h (He.ga K "Seats", sp_Seats_worth_of K) (by simp) rfl
def a_is_number (K : PySem.W.Frag) : AS := (aRet (aAndV (aCB (aIsi K (okY K)) (aCons (aVar 0) (aCons (aC (.ty "int")) aNil))) (aAndV (aNotV (aCB (aIsi K (okY K)) (aCons (aVar 0) (aCons (aC (.ty "bool")) aNil)))) (aChn aLe aLt (aC (.int 0)) (aVar 0) (aVar 1)))))
def a_is_heap (K : PySem.W.Frag) : AS := (aSeq (aIf (aOr (aNot (aTst (aCB (aIsi K (okY K)) (aCons (aVar 0) (aCons (aC (.ty "list")) aNil))))) (aNot (aTst (aCB aAll (aCons (aLc (aIter (aVar 0)) (agName 2) aYes (aCl (sp_is_number K) (aCons (aVar 2) (aCons (aVar 1) aNil))) [2]) aNil))))) (aRet (aC (.bl false))) aNext)
 (aRet (aOp (aEqD false) (aLnSt (aVar 0)) (aCB aLen (aCons (aVar 0) aNil)))))
def a_joined (K : PySem.W.Frag) : AS := (aRet (aCB aSrtSet (aCons (aCB aSetOf (aCons (aOp aAdd (aVar 0) (aVar 1)) aNil)) aNil)))
def a_Yard_init (K : PySem.W.Frag) : AS := (aSeq (aFst (okY K) "numbers" (aVar 0) (aLRg1 (aVar 1)))
 (aFst (okY K) "nested" (aVar 0) (aVar 2)))
def a_Yard_many (K : PySem.W.Frag) : AS := (aRet (aCB aLen (aCons (aFl (okY K) "numbers" (aVar 0)) aNil)))
def a_Yard_things (K : PySem.W.Frag) : AS := (aRet (aCB aList (aCons (aFl (okY K) "numbers" (aVar 0)) aNil)))
def a_Lots_worth_of (K : PySem.W.Frag) : AS := (aSeq (aSet 2 (aOp aMulL (aLst (aCons (aC (.int 0)) aNil)) (aCB aLen (aCons (aFl (okY K) "own_tops" (aVar 0)) aNil))))
 (aSeq (aFor (aIter (aVar 1)) (agName 3) (aAugS (aVar 2) (aOp aIx (aFl (okY K) "own_lots" (aVar 0)) (aVar 3)) (aC (.int 1)) aIAdd))
 (aRet (aCB aSum (aCons (aLc (aZip (aCons (aVar 2) (aCons (aFl (okY K) "own_tops" (aVar 0)) aNil))) (agTup 2 (agCons (agName 4) (agCons (agName 5) agNil))) aYes (aCB aMin (aCons (aVar 4) (aCons (aVar 5) aNil))) [4, 5]) aNil)))))
def a_Rows_worth_of (K : PySem.W.Frag) : AS := (aSeq (aSet 2 aDNew)
 (aSeq (aFor (aIter (aVar 1)) (agName 3) (aSeq (aSet 4 (aOp aIx (aFl (okY K) "own_rows" (aVar 0)) (aVar 3)))
 (aSeq (aWhile (aTst (aDIn false (aBits (aVar 4)) (aVar 2))) (aAug 4 (aDIx (aVar 2) (aBits (aVar 4))) aXor))
 (aIf (aTst (aOp aGt (aVar 4) (aC (.int 0)))) (aDPut (aVar 2) (aBits (aVar 4)) (aVar 4)) aNext))))
 (aRet (aCB aLenD (aCons (aVar 2) aNil)))))
def a_finds_seat (K : PySem.W.Frag) (sp : SpA) : AS := (aSeq (aFor (aIter (aOp aIx (aVar 0) (aVar 1))) (agName 4) (aIf (aTst (aOp (aIn true) (aVar 4) (aVar 3))) (aSeq (aDrop (aBM aApp (aVar 3) (aCons (aVar 4) aNil)))
 (aIf (aOr (aTst (aDIn true (aVar 4) (aVar 2))) (aTst (aCl sp (aCons (aVar 0) (aCons (aDIx (aVar 2) (aVar 4)) (aCons (aVar 2) (aCons (aVar 3) aNil))))))) (aSeq (aDPut (aVar 2) (aVar 4) (aVar 1))
 (aRet (aC (.bl true)))) aNext)) aNext))
 (aRet (aC (.bl false))))
def a_seated (K : PySem.W.Frag) : AS := (aSeq (aSet 2 aDNew)
 (aSeq (aFor (aIter (aVar 1)) (agName 3) (aDrop (aCl (sp_finds_seat K 13) (aCons (aVar 0) (aCons (aVar 3) (aCons (aVar 2) (aCons (aLst aNil) aNil)))))))
 (aRet (aVar 2))))
def a_Seats_worth_of (K : PySem.W.Frag) : AS := (aRet (aCB aLenD (aCons (aCl (sp_seated K) (aCons (aFl (okY K) "own_rows" (aVar 0)) (aCons (aVar 1) aNil))) aNil)))
def a_piece_of (K : PySem.W.Frag) : AS := (aSeq (aSet 2 (aVar 1))
 (aSeq (aWhile (aTst (aOp (aEqD true) (aOp aIx (aVar 0) (aVar 2)) (aVar 2))) (aSet 2 (aOp aIx (aVar 0) (aVar 2))))
 (aRet (aVar 2))))
def a_Ties_worth_of (K : PySem.W.Frag) : AS := (aSeq (aSet 2 (aLRg1 (aFl (okY K) "own_places" (aVar 0))))
 (aSeq (aSet 3 (aC (.int 0)))
 (aSeq (aFor (aIter (aVar 1)) (agName 4) (aSeq (aAsg (aLc (aIter (aOp aIx (aFl (okY K) "own_pairs" (aVar 0)) (aVar 4))) (agName 7) aYes (aCl (sp_piece_of K) (aCons (aVar 2) (aCons (aVar 7) aNil))) [7]) (agTup 2 (agCons (agName 5) (agCons (agName 6) agNil))))
 (aIf (aTst (aOp (aEqD true) (aVar 5) (aVar 6))) (aSeq (aAsg (aVar 6) (agSub (aVar 2) (aVar 5)))
 (aAug 3 (aC (.int 1)) aIAdd)) aNext)))
 (aRet (aVar 3)))))
def a_Yard_whole (K : PySem.W.Frag) : AS := (aRet (aMtF (okY K) "worth_of" (fam_worth_of K) (aVar 0) (aCons (aMt (okY K) "things" (sp_Yard_things K) (aVar 0) aNil) aNil)))
def a_want_heap (K : PySem.W.Frag) : AS := (aIf (aNot (aTst (aCl (sp_is_heap K) (aCons (aVar 1) (aCons (aMt (okY K) "many" (sp_Yard_many K) (aVar 0) aNil) aNil))))) aNever aNext)
def a_want_list (K : PySem.W.Frag) : AS := (aSeq (aIf (aNot (aTst (aCB (aIsi K (okY K)) (aCons (aVar 0) (aCons (aC (.ty "list")) aNil))))) aNever aNext)
 (aIf (aTst (aOp aGt (aCB aLen (aCons (aVar 0) aNil)) (aC (.int 24)))) aNever aNext))
def a_want_each (K : PySem.W.Frag) : AS := (aIf (aNot (aTst (aCB aAll (aCons (aVar 0) aNil)))) aNever aNext)
def a_are_tops (K : PySem.W.Frag) : AS := (aSeq (aIf (aOr (aNot (aTst (aCB (aIsi K (okY K)) (aCons (aVar 0) (aCons (aC (.ty "list")) aNil))))) (aTst (aOp aGt (aCB aLen (aCons (aVar 0) aNil)) (aC (.int 8))))) (aRet (aC (.bl false))) aNext)
 (aRet (aCB aAll (aCons (aLc (aIter (aVar 0)) (agName 1) aYes (aCl (sp_is_number K) (aCons (aVar 1) (aCons (aOp aAdd (aC (.int 24)) (aC (.int 1))) aNil))) [1]) aNil))))
def a_Lots_init (K : PySem.W.Frag) : AS := (aSeq (aIf (aNot (aTst (aCl (sp_are_tops K) (aCons (aVar 1) aNil)))) aNever aNext)
 (aSeq (aDrop (aCl (sp_want_list K) (aCons (aVar 2) aNil)))
 (aSeq (aDrop (aCl (sp_want_each K) (aCons (aLc (aIter (aVar 2)) (agName 3) aYes (aCl (sp_is_number K) (aCons (aVar 3) (aCons (aCB aLen (aCons (aVar 1) aNil)) aNil))) [3]) aNil)))
 (aSeq (aDrop (aClD (sp_Yard_init K) [.int 0] (aCons (aVar 0) (aCons (aCB aLen (aCons (aVar 2) aNil)) aNil))))
 (aSeq (aFst (okY K) "own_tops" (aVar 0) (aCB aList (aCons (aVar 1) aNil)))
 (aFst (okY K) "own_lots" (aVar 0) (aCB aList (aCons (aVar 2) aNil))))))))
def a_Rows_init (K : PySem.W.Frag) : AS := (aSeq (aDrop (aCl (sp_want_list K) (aCons (aVar 1) aNil)))
 (aSeq (aDrop (aCl (sp_want_each K) (aCons (aLc (aIter (aVar 1)) (agName 2) aYes (aCl (sp_is_number K) (aCons (aVar 2) (aCons (aC (.int 4096)) aNil))) [2]) aNil)))
 (aSeq (aDrop (aClD (sp_Yard_init K) [.int 0] (aCons (aVar 0) (aCons (aCB aLen (aCons (aVar 1) aNil)) aNil))))
 (aFst (okY K) "own_rows" (aVar 0) (aCB aList (aCons (aVar 1) aNil))))))
def a_Seats_init (K : PySem.W.Frag) : AS := (aSeq (aIf (aNot (aTst (aCl (sp_is_number K) (aCons (aVar 1) (aCons (aOp aAdd (aC (.int 12)) (aC (.int 1))) aNil))))) aNever aNext)
 (aSeq (aDrop (aCl (sp_want_list K) (aCons (aVar 2) aNil)))
 (aSeq (aDrop (aCl (sp_want_each K) (aCons (aLc (aIter (aVar 2)) (agName 3) aYes (aCl (sp_is_heap K) (aCons (aVar 3) (aCons (aVar 1) aNil))) [3]) aNil)))
 (aSeq (aDrop (aClD (sp_Yard_init K) [.int 0] (aCons (aVar 0) (aCons (aCB aLen (aCons (aVar 2) aNil)) aNil))))
 (aSeq (aFst (okY K) "own_seats" (aVar 0) (aVar 1))
 (aFst (okY K) "own_rows" (aVar 0) (aLc (aIter (aVar 2)) (agName 3) aYes (aCB aList (aCons (aVar 3) aNil)) [3])))))))
def a_is_pair (K : PySem.W.Frag) : AS := (aRet (aAndV (aCB (aIsi K (okY K)) (aCons (aVar 0) (aCons (aC (.ty "tuple")) aNil))) (aAndV (aOp (aEqD false) (aCB aLen (aCons (aVar 0) aNil)) (aC (.int 2))) (aCB aAll (aCons (aLc (aIter (aVar 0)) (agName 2) aYes (aCl (sp_is_number K) (aCons (aVar 2) (aCons (aVar 1) aNil))) [2]) aNil)))))
def a_Ties_init (K : PySem.W.Frag) : AS := (aSeq (aIf (aOr (aNot (aTst (aCl (sp_is_number K) (aCons (aVar 1) (aCons (aOp aAdd (aC (.int 12)) (aC (.int 1))) aNil))))) (aTst (aOp (aEqD false) (aVar 1) (aC (.int 0))))) aNever aNext)
 (aSeq (aDrop (aCl (sp_want_list K) (aCons (aVar 2) aNil)))
 (aSeq (aDrop (aCl (sp_want_each K) (aCons (aLc (aIter (aVar 2)) (agName 3) aYes (aCl (sp_is_pair K) (aCons (aVar 3) (aCons (aVar 1) aNil))) [3]) aNil)))
 (aSeq (aDrop (aClD (sp_Yard_init K) [.int 0] (aCons (aVar 0) (aCons (aCB aLen (aCons (aVar 2) aNil)) aNil))))
 (aSeq (aFst (okY K) "own_places" (aVar 0) (aVar 1))
 (aFst (okY K) "own_pairs" (aVar 0) (aCB aList (aCons (aVar 2) aNil))))))))
def a_pairs (K : PySem.W.Frag) : AS := (aRet (aLc (aRng1 (aCons (aVar 2) aNil)) (agName 3) aYes (aTup (aCons (aCl (sp_take K) (aCons (aVar 0) (aCons (aVar 1) aNil))) (aCons (aCl (sp_take K) (aCons (aVar 0) (aCons (aVar 1) aNil))) aNil))) [3]))
def a_seat_rows (K : PySem.W.Frag) : AS := (aSeq (aSet 3 (aLst aNil))
 (aSeq (aFor (aRng1 (aCons (aVar 2) aNil)) (agName 4) (aSeq (aSet 5 (aLc (aRng1 (aCons (aVar 1) aNil)) (agName 6) (aTst (aOp (aEqD false) (aCl (sp_take K) (aCons (aVar 0) (aCons (aC (.int 3)) aNil))) (aC (.int 0)))) (aVar 6) [6]))
 (aDrop (aBM aApp (aVar 3) (aCons (aIfE (aTst (aOp (aEqD false) (aCl (sp_take K) (aCons (aVar 0) (aCons (aC (.int 4)) aNil))) (aC (.int 0)))) (aRev (aVar 5)) (aVar 5)) aNil)))))
 (aRet (aVar 3))))
def a_with_alike (K : PySem.W.Frag) : AS := (aSeq (aSet 2 (aCB aList (aCons (aVar 1) aNil)))
 (aSeq (aIf (aTst (aOp (aEqD false) (aCl (sp_take K) (aCons (aVar 0) (aCons (aC (.int 3)) aNil))) (aC (.int 0)))) (aFor (aRng2 (aCons (aC (.int 1)) (aCons (aCB aLen (aCons (aVar 2) aNil)) aNil))) (agName 3) (aIf (aTst (aOp (aEqD false) (aCl (sp_take K) (aCons (aVar 0) (aCons (aC (.int 3)) aNil))) (aC (.int 0)))) (aAsg (aOp aIx (aVar 2) (aCl (sp_take K) (aCons (aVar 0) (aCons (aVar 3) aNil)))) (agSub (aVar 2) (aVar 3))) aNext)) aNext)
 (aRet (aVar 2))))
def a_spec (K : PySem.W.Frag) : AS := (aSeq (aSet 2 (aOp aIx (aLst (aCons (aC (.str "ties")) (aCons (aC (.str "rows")) (aCons (aC (.str "lots")) (aCons (aC (.str "seats")) aNil))))) (aCl (sp_take K) (aCons (aVar 0) (aCons (aC (.int 4)) aNil)))))
 (aSeq (aSet 3 (aOp aIx (aLst (aCons (aVar 1) (aCons (aCl (sp_take K) (aCons (aVar 0) (aCons (aOp aAdd (aVar 1) (aC (.int 1))) aNil))) aNil))) (aCl (sp_take K) (aCons (aVar 0) (aCons (aC (.int 2)) aNil)))))
 (aSeq (aIf (aTst (aOp (aEqD false) (aVar 2) (aC (.str "ties")))) (aSeq (aSet 4 (aOp aAdd (aC (.int 1)) (aCl (sp_take K) (aCons (aVar 0) (aCons (aOp aIx (aLst (aCons (aC (.int 12)) (aCons (aC (.int 4)) aNil))) (aCl (sp_take K) (aCons (aVar 0) (aCons (aC (.int 2)) aNil)))) aNil)))))
 (aRet (aTup (aCons (aVar 2) (aCons (aVar 4) (aCons (aCl (sp_with_alike K) (aCons (aVar 0) (aCons (aCl (sp_pairs K) (aCons (aVar 0) (aCons (aVar 4) (aCons (aVar 3) aNil)))) aNil))) aNil)))))) aNext)
 (aSeq (aIf (aTst (aOp (aEqD false) (aVar 2) (aC (.str "rows")))) (aSeq (aSet 5 (aOp aIx (aLst (aCons (aC (.int 4096)) (aCons (aC (.int 16)) (aCons (aC (.int 4)) aNil)))) (aCl (sp_take K) (aCons (aVar 0) (aCons (aC (.int 3)) aNil)))))
 (aRet (aTup (aCons (aVar 2) (aCons (aC (.int 0)) (aCons (aCl (sp_with_alike K) (aCons (aVar 0) (aCons (aLc (aRng1 (aCons (aVar 3) aNil)) (agName 6) aYes (aCl (sp_take K) (aCons (aVar 0) (aCons (aVar 5) aNil))) [6]) aNil))) aNil)))))) aNext)
 (aSeq (aIf (aTst (aOp (aEqD false) (aVar 2) (aC (.str "lots")))) (aSeq (aSet 7 (aLc (aRng1 (aCons (aOp aAdd (aC (.int 1)) (aCl (sp_take K) (aCons (aVar 0) (aCons (aC (.int 8)) aNil)))) aNil)) (agName 6) aYes (aOp aIx (aLst (aCons (aC (.int 0)) (aCons (aC (.int 1)) (aCons (aC (.int 2)) (aCons (aCl (sp_take K) (aCons (aVar 0) (aCons (aC (.int 25)) aNil))) aNil))))) (aCl (sp_take K) (aCons (aVar 0) (aCons (aC (.int 4)) aNil)))) [6]))
 (aRet (aTup (aCons (aVar 2) (aCons (aVar 7) (aCons (aCl (sp_with_alike K) (aCons (aVar 0) (aCons (aLc (aRng1 (aCons (aVar 3) aNil)) (agName 6) aYes (aCl (sp_take K) (aCons (aVar 0) (aCons (aCB aLen (aCons (aVar 7) aNil)) aNil))) [6]) aNil))) aNil)))))) aNext)
 (aSeq (aSet 8 (aCl (sp_take K) (aCons (aVar 0) (aCons (aOp aIx (aLst (aCons (aC (.int 13)) (aCons (aC (.int 5)) aNil))) (aCl (sp_take K) (aCons (aVar 0) (aCons (aC (.int 2)) aNil)))) aNil))))
 (aRet (aTup (aCons (aVar 2) (aCons (aVar 8) (aCons (aCl (sp_with_alike K) (aCons (aVar 0) (aCons (aCl (sp_seat_rows K) (aCons (aVar 0) (aCons (aVar 8) (aCons (aVar 3) aNil)))) aNil))) aNil)))))))))))
def a_made (K : PySem.W.Frag) : AS := (aSeq (aAsg (aVar 0) (agTup 3 (agCons (agName 1) (agCons (agName 2) (agCons (agName 3) agNil)))))
 (aSeq (aIf (aTst (aOp (aEqD false) (aVar 1) (aC (.str "ties")))) (aRet (aMk (He.ga K "Ties") (sp_Ties_init K) (aCons (aVar 2) (aCons (aCB aList (aCons (aVar 3) aNil)) aNil)))) aNext)
 (aSeq (aIf (aTst (aOp (aEqD false) (aVar 1) (aC (.str "rows")))) (aRet (aMk (He.ga K "Rows") (sp_Rows_init K) (aCons (aCB aList (aCons (aVar 3) aNil)) aNil))) aNext)
 (aSeq (aIf (aTst (aOp (aEqD false) (aVar 1) (aC (.str "lots")))) (aRet (aMk (He.ga K "Lots") (sp_Lots_init K) (aCons (aCB aList (aCons (aVar 2) aNil)) (aCons (aCB aList (aCons (aVar 3) aNil)) aNil)))) aNext)
 (aRet (aMk (He.ga K "Seats") (sp_Seats_init K) (aCons (aVar 2) (aCons (aLc (aIter (aVar 3)) (agName 4) aYes (aCB aList (aCons (aVar 4) aNil)) [4]) aNil))))))))
def a_joined_places (K : PySem.W.Frag) : AS := (aSeq (aSet 2 (aLRg1 (aVar 0)))
 (aSeq (aFor (aIter (aVar 1)) (agTup 2 (agCons (agName 3) (agCons (agName 4) agNil))) (aSeq (aAsg (aTup (aCons (aOp aIx (aVar 2) (aVar 3)) (aCons (aOp aIx (aVar 2) (aVar 4)) aNil))) (agTup 2 (agCons (agName 5) (agCons (agName 6) agNil))))
 (aSet 2 (aLc (aIter (aVar 2)) (agName 7) aYes (aIfE (aTst (aOp (aInT false) (aVar 7) (aTup (aCons (aVar 5) (aCons (aVar 6) aNil))))) (aCB aMin (aCons (aVar 5) (aCons (aVar 6) aNil))) (aVar 7)) [7]))))
 (aRet (aOp aSub (aVar 0) (aLnSt (aVar 2))))))
def a_free_rows (K : PySem.W.Frag) : AS := (aSeq (aSet 1 (aLst aNil))
 (aSeq (aFor (aIter (aVar 0)) (agName 2) (aSeq (aFor (aIter (aVar 1)) (agName 3) (aSet 2 (aCB aMin (aCons (aVar 2) (aCons (aOp aXor (aVar 2) (aVar 3)) aNil)))))
 (aIf (aTst (aOp aGt (aVar 2) (aC (.int 0)))) (aDrop (aBM aApp (aVar 1) (aCons (aVar 2) aNil))) aNext)))
 (aRet (aCB aLen (aCons (aVar 1) aNil)))))
def a_in_lots (K : PySem.W.Frag) : AS := (aRet (aCB aSum (aCons (aLc (aEnum (aCons (aVar 0) aNil)) (agTup 2 (agCons (agName 2) (agCons (agName 3) agNil))) aYes (aCB aMin (aCons (aVar 3) (aCons (aBM aCount (aVar 1) (aCons (aVar 2) aNil)) aNil))) [2, 3]) aNil)))
def a_finds (K : PySem.W.Frag) (sp : SpA) : AS := (aSeq (aFor (aIter (aOp aIx (aVar 1) (aVar 0))) (agName 4) (aIf (aTst (aOp (aIn true) (aVar 4) (aVar 3))) (aSeq (aDrop (aBM aApp (aVar 3) (aCons (aVar 4) aNil)))
 (aIf (aOr (aTst (aDIn true (aVar 4) (aVar 2))) (aTst (aCl sp (aCons (aDIx (aVar 2) (aVar 4)) (aCons (aVar 1) (aCons (aVar 2) (aCons (aVar 3) aNil))))))) (aSeq (aDPut (aVar 2) (aVar 4) (aVar 0))
 (aRet (aC (.bl true)))) aNext)) aNext))
 (aRet (aC (.bl false))))
def a_sitting (K : PySem.W.Frag) : AS := (aSeq (aSet 1 aDNew)
 (aRet (aCB aSum (aCons (aLc (aRng1 (aCons (aCB aLen (aCons (aVar 0) aNil)) aNil)) (agName 2) aYes (aCB aInt (aCons (aCl (sp_finds K 13) (aCons (aVar 2) (aCons (aVar 0) (aCons (aVar 1) (aCons (aLst aNil) aNil))))) aNil)) [2]) aNil))))
def a_worth (K : PySem.W.Frag) : AS := (aSeq (aAsg (aVar 0) (agTup 3 (agCons (agName 2) (agCons (agName 3) (agCons (agName 4) agNil)))))
 (aSeq (aSet 5 (aLc (aIter (aVar 1)) (agName 6) aYes (aOp aIx (aVar 4) (aVar 6)) [6]))
 (aSeq (aIf (aTst (aOp (aEqD false) (aVar 2) (aC (.str "ties")))) (aRet (aCl (sp_joined_places K) (aCons (aVar 3) (aCons (aVar 5) aNil)))) aNext)
 (aSeq (aIf (aTst (aOp (aEqD false) (aVar 2) (aC (.str "rows")))) (aRet (aCl (sp_free_rows K) (aCons (aVar 5) aNil))) aNext)
 (aSeq (aIf (aTst (aOp (aEqD false) (aVar 2) (aC (.str "lots")))) (aRet (aCl (sp_in_lots K) (aCons (aVar 3) (aCons (aVar 5) aNil)))) aNext)
 (aRet (aCl (sp_sitting K) (aCons (aVar 5) aNil))))))))
end A

namespace A
open PySem PySem.Spec L2 PyProof.Rows
local macro_rules | `(tactic| walk_at "A.go") => `(tactic| simp only [aSeq, aNext, aSet, aVar, atV_s, onB_b, onI_i, onII_i, onL1_i, onL2_i, it_l, it_t, it_s, it_x, ix_l, ix_t, ix_s, add_i, add_x, eq_i, eq_x, eq_b, is_b, aC, aNil, aCons, aOp, aUn, aTup, aLst, aCB, aNot, aAnd, aOr, aTst, aIfE, aAndV, aOrV, aNotV, aChn, aDrop, aRet, aRetN, aIf, agName, agNil, agCons, agTup, aAsg, aPar, aAug, aFor, aRng1, aRng2, aIter, aLc, aYes,
  aCl, aMt, aMk, aFl, aFst, aNeg, aI2, aI20, aLe, aLt, aGt, aGe, aSub, aMod, aMul, aFdv, aPow, aXor, aShl, aShr, agSub, aoN, aoS, aSl, aRev, aLen, aList, aTupOf, aLRg1, aLRg2, aAbs, aI2N, aMax, aMin, aDm, aAll, aAny, aBM, aApp, aPopAt, aPop, aClear, aRevM, aExt, aRepr, aClD, aLnSt, aIAdd, aBreak, aCont,
  aEnd, startA, List.map_cons, List.map_nil, List.cons_append, List.nil_append, List.length_cons, List.length_nil, List.replicate, List.getElem?_cons_zero, List.getElem?_cons_succ, List.set_cons_zero, List.set_cons_succ, Nat.reduceAdd, Nat.reduceSub, Nat.succ_eq_add_one, Int.reduceAdd, Int.reduceMul,
  reduceIte, Bool.false_eq_true, Bool.not_true, Bool.not_false, ite_true, ite_false])
local macro_rules | `(tactic| walk_at "A.hop") => `(tactic| try simp only [aMtF, aFmt, aJs, aEqO, aNeO, aReprF, aRevT, aIsiT, aInt, aStrI, aEnum, aZip, aMulL, aCount, aAugS, aSetOf, aSrtSet, aSum, aDNew, aDIn, aDIx, aDPut, aLenD, aListD, aBits, aDsp1, aBool, aSorted, wipeA, aSeq, aNext, aSet, aVar, atV_s, onB_b, onI_i, onII_i, onL1_i, onL2_i, it_l, it_t, it_s, it_x, ix_l, ix_t, ix_s, add_i, add_x, eq_i, eq_x, eq_b, is_b, aC, aNil, aCons, aOp, aUn, aTup, aLst, aCB, aNot, aAnd, aOr, aTst, aIfE, aAndV, aOrV, aNotV, aChn, aDrop, aRet, aRetN, aIf, agName, agNil, agCons, agTup, aAsg, aPar, aAug, aFor, aRng1, aRng2, aIter, aLc, aYes,
  aCl, aMt, aMk, aFl, aFst, aNeg, aI2, aI20, aLe, aLt, aGt, aGe, aSub, aMod, aMul, aFdv, aPow, aXor, aShl, aShr, agSub, aoN, aoS, aSl, aRev, aLen, aList, aTupOf, aLRg1, aLRg2, aAbs, aI2N, aMax, aMin, aDm, aAll, aAny, aBM, aApp, aPopAt, aPop, aClear, aRevM, aExt, aRepr, aClD, aLnSt, aIAdd, aBreak, aCont,
  aEnd, startA, List.map_cons, List.map_nil, List.cons_append, List.nil_append, List.length_cons, List.length_nil, List.replicate, List.getElem?_cons_zero, List.getElem?_cons_succ, List.set_cons_zero, List.set_cons_succ, Nat.reduceAdd, Nat.reduceSub, Nat.succ_eq_add_one, Int.reduceAdd, Int.reduceMul,
  reduceIte, Bool.false_eq_true, Bool.not_true, Bool.not_false, ite_true, ite_false])
/-! ### the lesser defs -/
theorem law_is_number (K : PySem.W.Frag) : ∀ ds S Q E, sp_is_number K ds S Q E → a_is_number K (aEnd Q E) (startA ["thing", "many"] ds) S := by
  rintro ds S Q E ⟨i, m, rfl, q⟩
  unfold a_is_number
  walk_at "A.go"
  refine isi_ty rfl (fun _ z => nomatch z) kit_int_int ?_
  walk_at "A.go"
  refine isi_ty rfl (fun _ z => nomatch z) kit_int_bool ?_
  walk_at "A.go"
  cases h : decide (0 ≤ i) with
  | true => rw [h, Bool.true_and] at q; exact ret q
  | false => rw [h, Bool.false_and] at q; exact ret q
theorem law_is_heap (K : PySem.W.Frag) : ∀ ds S Q E, sp_is_heap K ds S Q E → a_is_heap K (aEnd Q E) (startA ["things", "many", "thing"] ds) S := by
  rintro ds S Q E ⟨d, m, hp, rfl, hd, ⟨hn, hr⟩, hm, q⟩
  unfold a_is_heap
  walk_at "A.go"
  refine isi_ty (tyD_asL hd) (fun _ z => nomatch z) kit_list_list ?_
  walk_at "A.go"
  refine iter_asL hd fun G hG => ?_
  refine aLcL_map (fun _ => .bl true) (hG S hd) ?_ (.inl ?_)
  · rintro d hd' k hk
    obtain ⟨i, hi, rfl⟩ := List.mem_map.mp hd'
    obtain ⟨i0, i1⟩ := hr i hi
    simp only [wipeA, List.set_cons_succ, List.set_cons_zero, aCl, aCons, aVar, aNil, List.getElem?_cons_zero, List.getElem?_cons_succ]
    refine ⟨i, m, rfl, ret ?_⟩
    rw [decide_eq_true i0, decide_eq_true i1]
    exact hk
  · refine ⟨_, _, List.replicate hp.length true, rfl, rfl, ?_, ?_⟩
    · rw [← blsOf_map]
      congr 1
      rw [List.map_map]
      show List.map (fun _ => D.bl true) hp = _
      rw [List.map_replicate]
      exact List.map_const' ..
    · have e : (List.replicate hp.length true).all id = true := by simp
      rw [e]
      walk_at "A.go"
      have hl := nodup_le hn hr
      exact ⟨_, hp, hd, intsOf_map hp, by omega, d, _, rfl, lenD_asL hd, ret (by
        rw [unl_nodup hn, List.length_map, decide_eq_true rfl]
        exact q)⟩
theorem law_Yard_init (K : PySem.W.Frag) : ∀ ds S Q E, sp_Yard_init K ds S Q E → a_Yard_init K (aEnd Q E) (startA ["self", "many", "nested"] ds) S := by
  rintro ds S Q E ⟨y, n, C, rfl, hy, hC, hn, q⟩
  unfold a_Yard_init
  walk_at "A.go"
  refine ⟨RgOk.of_le (by omega) (by omega) (by omega) (by omega), .inl ⟨y, C, _, rfl, hy, hC, by decide, y, C, _, rfl, put_same, hC, show (1 : Nat) < 1000 by decide, ret ?_⟩⟩
  rw [put_put]
  have e : rngD 0 ((n : Int)).toNat = (rng n).map .int := by rw [rngD0]; rfl
  rw [e]
  exact q
theorem law_Yard_many (K : PySem.W.Frag) : ∀ ds S Q E, sp_Yard_many K ds S Q E → a_Yard_many K (aEnd Q E) (startA ["self"] ds) S := by
  rintro ds S Q E ⟨y, u, rfl, h, q⟩
  unfold a_Yard_many
  walk_at "A.go"
  exact ⟨_, _, _, h.ins, h.ok, u.nums, _, _, rfl, rfl, ret (by rw [List.length_map, rng_length]; exact q)⟩
theorem law_Yard_things (K : PySem.W.Frag) : ∀ ds S Q E, sp_Yard_things K ds S Q E → a_Yard_things K (aEnd Q E) (startA ["self"] ds) S := by
  rintro ds S Q E ⟨y, u, rfl, h, q⟩
  unfold a_Yard_things
  walk_at "A.go"
  exact ⟨_, _, _, h.ins, h.ok, u.nums, _, _, rfl, rfl, q.ret⟩
theorem law_want_list (K : PySem.W.Frag) : ∀ ds S Q E, sp_want_list K ds S Q E → a_want_list K (aEnd Q E) (startA ["things"] ds) S := by
  rintro ds S Q E ⟨d, l, rfl, hl, hz, q⟩
  unfold a_want_list
  walk_at "A.go"
  refine isi_ty (tyD_asL hl) (fun _ z => nomatch z) kit_list_list ?_
  walk_at "A.go"
  refine ⟨d, _, rfl, lenD_asL hl, ?_⟩
  rw [decide_eq_false (show ¬ (24 : Int) < l.length by omega)]
  exact ret q
theorem law_want_each (K : PySem.W.Frag) : ∀ ds S Q E, sp_want_each K ds S Q E → a_want_each K (aEnd Q E) (startA ["rights"] ds) S := by
  rintro ds S Q E ⟨d, bs, rfl, hl, hz, q⟩
  unfold a_want_each
  walk_at "A.go"
  refine ⟨d, _, bs, rfl, hl, blsOf_map bs, ?_⟩
  rw [hz]
  exact ret q

theorem law_is_pair (K : PySem.W.Frag) : ∀ ds S Q E, sp_is_pair K ds S Q E → a_is_pair K (aEnd Q E) (startA ["thing", "places", "place"] ds) S := by
  rintro ds S Q E ⟨e, n, rfl, h1, h2, q⟩
  unfold a_is_pair
  walk_at "A.go"
  refine isi_ty rfl (fun _ z => nomatch z) kit_tup_tup ?_
  walk_at "A.go"
  refine ⟨prD e, 2, rfl, rfl, ?_⟩
  rw [decide_eq_true (show ((2 : Nat) : Int) = 2 by rfl)]
  unfold prD
  walk_at "A.go"
  refine aLcL_map (fun _ => .bl true) trivial ?_ (.inl ⟨_, _, [true, true], rfl, rfl, rfl, ret q⟩)
  intro d hd k hk
  have one : ∀ i, InR n i → aCl (sp_is_number K) (aCons (aVar 2) (aCons (aVar 1) aNil)) [some (.tup [.int e.1, .int e.2]), some (.int n), some (.int i)] S k noX := by
    rintro i ⟨i0, i1⟩
    walk_at "A.go"
    refine ⟨i, n, rfl, ret ?_⟩
    rw [decide_eq_true i0, decide_eq_true i1]
    exact hk
  rcases List.mem_cons.mp hd with rfl | hd
  · exact one _ h1
  · rw [List.mem_singleton.mp hd]
    exact one _ h2
/-- [test(x) for x in xs], all of them true -/
theorem all_true {l : List D} : List.map (fun _ => D.bl true) l = List.map D.bl (List.replicate l.length true) := by rw [List.map_replicate]; exact List.map_const' ..
theorem law_are_tops (K : PySem.W.Frag) : ∀ ds S Q E, sp_are_tops K ds S Q E → a_are_tops K (aEnd Q E) (startA ["tops", "top"] ds) S := by
  rintro ds S Q E ⟨d, ts, rfl, hd, hz, ht, q⟩
  unfold a_are_tops
  walk_at "A.hop"
  refine isi_ty (tyD_asL hd) (fun _ z => nomatch z) kit_list_list ?_
  walk_at "A.hop"
  refine ⟨d, _, rfl, lenD_asL hd, ?_⟩
  rw [List.length_map, decide_eq_false (show ¬ (8 : Int) < ts.length by omega)]
  walk_at "A.hop"
  refine iter_asL hd fun G hG => ?_
  refine aLcL_map (fun _ => .bl true) (hG S hd) ?_ (.inl ?_)
  · intro d' hd' k hk
    obtain ⟨t, ht', rfl⟩ := List.mem_map.mp hd'
    have := ht t ht'
    walk_at "A.hop"
    refine ⟨t, 25, rfl, ret ?_⟩
    rw [decide_eq_true (show (0 : Int) ≤ t by omega), decide_eq_true (show (t : Int) < 25 by omega)]
    exact hk
  · refine ⟨_, _, List.replicate (List.map nD ts).length true, rfl, rfl, ?_, ?_⟩
    · rw [all_true]; exact blsOf_map _
    · rw [show (List.replicate (List.map nD ts).length true).all id = true by simp]
      exact ret q
theorem law_joined (K : PySem.W.Frag) : ∀ ds S Q E, sp_joined K ds S Q E → a_joined K (aEnd Q E) (startA ["one", "other"] ds) S := by
  rintro ds S Q E ⟨d, e, l, m, rfl, hd, he, hz, q⟩
  unfold a_joined
  walk_at "A.hop"
  have cat : aAdd d e S (fun d S2 => ∃ d_1 l ns, [d] = [d_1] ∧ asL S2 d_1 = some l ∧ intsOf l = some ns ∧ ns.length ≤ 1000 ∧ ∀ (l' : List Int), l'.Nodup → (∀ (k : Int), k ∈ l' ↔ k ∈ ns) →
      ∃ l, [D.set l'] = [D.set l] ∧ l.length < 64 ∧ ∀ (ns : List Int), ns.Pairwise (· < ·) → (∀ (k : Int), k ∈ ns ↔ k ∈ l) → NewL (List.map D.int ns) S2 (Ret Q)) := by
    have fin : NewL (List.map D.int l ++ List.map D.int m) S (fun d S2 => ∃ d_1 l ns, [d] = [d_1] ∧ asL S2 d_1 = some l ∧ intsOf l = some ns ∧ ns.length ≤ 1000 ∧ ∀ (l' : List Int), l'.Nodup → (∀ (k : Int), k ∈ l' ↔ k ∈ ns) →
      ∃ l, [D.set l'] = [D.set l] ∧ l.length < 64 ∧ ∀ (ns : List Int), ns.Pairwise (· < ·) → (∀ (k : Int), k ∈ ns ↔ k ∈ l) → NewL (List.map D.int ns) S2 (Ret Q)) := by
      refine .inl ⟨_, _, l ++ m, rfl, rfl, by rw [← List.map_append]; exact intsOf_map _, by rw [List.length_append]; omega, fun l' nd mem => ⟨l', rfl, ?_, fun ns hs hm => (q ns hs fun k => ?_).ret⟩⟩
      · have := sub_len nd fun x hx => (mem x).mp hx
        rw [List.length_append] at this
        omega
      · rw [hm, mem, List.mem_append]
    have lists : ∃ xs ys, asL S d = some xs ∧ asL S e = some ys ∧ xs.length + ys.length ≤ sizeLine ∧ NewL (xs ++ ys) S _ := ⟨_, _, hd, he, by rw [List.length_map, List.length_map, sizeLine_eq]; omega, fin⟩
    cases d with
    | lst _ => cases e <;> first | exact lists | cases he
    | own _ => cases e <;> first | exact lists | cases he
    | _ => cases hd
  exact cat
theorem law_want_heap (K : PySem.W.Frag) : ∀ ds S Q E, sp_want_heap K ds S Q E → a_want_heap K (aEnd Q E) (startA ["yard", "heap"] ds) S := by
  rintro ds S Q E ⟨y, u, d, hp, rfl, h, hd, hh, q⟩
  unfold a_want_heap
  walk_at "A.hop"
  refine ⟨_, _, h.ins, h.ok, by cases u <;> rfl, y, u, rfl, h, ret ⟨d, u.len, hp, rfl, hd, hh, h.le, ret ?_⟩⟩
  walk_at "A.hop"
  exact ret q
theorem fam_worth {K : PySem.W.Frag} {S : Sto} {y : Addr} {u : Yd} {d : D} {hp : List Int} {Q : KD} {E : KX} (h : IsY K S y u) (hd : asL S d = some (hp.map .int)) (hh : Heap_ u.len hp) (q : Q (.int (u.worth hp)) S) :
    fam_worth_of K (u.cls K) [.own y, d] S Q E := by
  refine fam4 h.2.2.1 h.2.2.2 (L := [(.ties, sp_Ties_worth_of K), (.rows, sp_Rows_worth_of K), (.lots, sp_Lots_worth_of K), (.seats, sp_Seats_worth_of K)]) rfl ?_
  have hl : hp.length ≤ 24 := by
    have := sub_len hh.1 fun x hx => mem_rngI.mpr (hh.2 x hx)
    rw [rng_length] at this
    have := h.le
    omega
  intro p hp' e
  simp only [List.mem_cons, List.not_mem_nil, or_false] at hp'
  rcases hp' with rfl | rfl | rfl | rfl
  · cases u with
    | ties n es => exact ⟨y, n, es, d, hp, rfl, h, hd, hh.2, hl, q⟩
    | _ => cases e
  · cases u with
    | rows rs => exact ⟨y, rs, d, hp, rfl, h, hd, hh.2, q⟩
    | _ => cases e
  · cases u with
    | lots ts ls => exact ⟨y, ts, ls, d, hp, rfl, h, hd, hh.2, hl, q⟩
    | _ => cases e
  · cases u with
    | seats n rs => exact ⟨y, n, rs, d, hp, rfl, h, hd, hh.1, hh.2, q⟩
    | _ => cases e
theorem rng_heap {n : Nat} : Heap_ n (rng n) := ⟨rng_nodup, fun _ h => mem_rngI.mp h⟩
theorem law_Yard_whole (K : PySem.W.Frag) : ∀ ds S Q E, sp_Yard_whole K ds S Q E → a_Yard_whole K (aEnd Q E) (startA ["self"] ds) S := by
  rintro ds S Q E ⟨y, u, rfl, h, q⟩
  unfold a_Yard_whole
  walk_at "A.hop"
  exact ⟨_, _, h.ins, h.ok, by cases u <;> rfl, _, _, h.ins, h.ok, by cases u <;> rfl, y, u, rfl, h, .inl (ret (fam_worth h rfl rng_heap (ret (ret q))))⟩
end A

namespace A
open PySem PySem.Spec L2 PyProof.Rows
local macro_rules | `(tactic| walk_at "A.go") => `(tactic| simp only [aSeq, aNext, aSet, aVar, atV_s, onB_b, onI_i, onII_i, onL1_i, onL2_i, it_l, it_t, it_s, it_x, ix_l, ix_t, ix_s, add_i, add_x, eq_i, eq_x, eq_b, is_b, aC, aNil, aCons, aOp, aUn, aTup, aLst, aCB, aNot, aAnd, aOr, aTst, aIfE, aAndV, aOrV, aNotV, aChn, aDrop, aRet, aRetN, aIf, agName, agNil, agCons, agTup, aAsg, aPar, aAug, aFor, aRng1, aRng2, aIter, aLc, aYes,
  aCl, aMt, aMk, aFl, aFst, aNeg, aI2, aI20, aLe, aLt, aGt, aGe, aSub, aMod, aMul, aFdv, aPow, aXor, aShl, aShr, agSub, aoN, aoS, aSl, aRev, aLen, aList, aTupOf, aLRg1, aLRg2, aAbs, aI2N, aMax, aMin, aDm, aAll, aAny, aBM, aApp, aPopAt, aPop, aClear, aRevM, aExt, aRepr, aClD, aLnSt, aIAdd, aBreak, aCont,
  aEnd, startA, List.map_cons, List.map_nil, List.cons_append, List.nil_append, List.length_cons, List.length_nil, List.replicate, List.getElem?_cons_zero, List.getElem?_cons_succ, List.set_cons_zero, List.set_cons_succ, Nat.reduceAdd, Nat.reduceSub, Nat.succ_eq_add_one, Int.reduceAdd, Int.reduceMul,
  reduceIte, Bool.false_eq_true, Bool.not_true, Bool.not_false, ite_true, ite_false])
local macro_rules | `(tactic| walk_at "A.hop") => `(tactic| try simp only [aMtF, aFmt, aJs, aEqO, aNeO, aReprF, aRevT, aIsiT, aInt, aStrI, aEnum, aZip, aMulL, aCount, aAugS, aSetOf, aSrtSet, aSum, aDNew, aDIn, aDIx, aDPut, aLenD, aListD, aBits, aDsp1, aBool, aSorted, wipeA, aSeq, aNext, aSet, aVar, atV_s, onB_b, onI_i, onII_i, onL1_i, onL2_i, it_l, it_t, it_s, it_x, ix_l, ix_t, ix_s, add_i, add_x, eq_i, eq_x, eq_b, is_b, aC, aNil, aCons, aOp, aUn, aTup, aLst, aCB, aNot, aAnd, aOr, aTst, aIfE, aAndV, aOrV, aNotV, aChn, aDrop, aRet, aRetN, aIf, agName, agNil, agCons, agTup, aAsg, aPar, aAug, aFor, aRng1, aRng2, aIter, aLc, aYes,
  aCl, aMt, aMk, aFl, aFst, aNeg, aI2, aI20, aLe, aLt, aGt, aGe, aSub, aMod, aMul, aFdv, aPow, aXor, aShl, aShr, agSub, aoN, aoS, aSl, aRev, aLen, aList, aTupOf, aLRg1, aLRg2, aAbs, aI2N, aMax, aMin, aDm, aAll, aAny, aBM, aApp, aPopAt, aPop, aClear, aRevM, aExt, aRepr, aClD, aLnSt, aIAdd, aBreak, aCont,
  aEnd, startA, List.map_cons, List.map_nil, List.cons_append, List.nil_append, List.length_cons, List.length_nil, List.replicate, List.getElem?_cons_zero, List.getElem?_cons_succ, List.set_cons_zero, List.set_cons_succ, Nat.reduceAdd, Nat.reduceSub, Nat.succ_eq_add_one, Int.reduceAdd, Int.reduceMul,
  reduceIte, Bool.false_eq_true, Bool.not_true, Bool.not_false, ite_true, ite_false])
/-! ### what the sorts of yards are worth: ties, rows, lots; how they are made -/
theorem law_piece_of (K : PySem.W.Frag) : ∀ ds S Q E, sp_piece_of K ds S Q E → a_piece_of K (aEnd Q E) (startA ["above", "place", "here"] ds) S := by
  rintro ds S Q E ⟨a, i, n, vs, rt, dep, rfl, ha, u, hi, q⟩
  unfold a_piece_of
  walk_at "A.go"
  refine ⟨fun m ρ S' => ∃ j, ρ = [some (.own a), some (.int i), some (.int j)] ∧ S' = S ∧ InR n j ∧ rt j = rt i ∧ m = dep j, ⟨dep i, i, rfl, rfl, hi, rfl, rfl⟩, ?_⟩
  rintro m ρ S' ⟨j, rfl, rfl, hj, ej, rfl⟩
  have hl : j.toNat < vs.length := by have := u.len; have := hj.1; have := hj.2; omega
  have hv : vs[j.toNat]? = some vs[j.toNat] := List.getElem?_eq_getElem hl
  generalize vs[j.toNat] = v at hv
  obtain ⟨p1, p2, p3, p4⟩ := u.up j v hj hv
  have hx : atI (vs.map D.int) j = some (.int v) := by
    have := atI_nat (xs := vs.map D.int) (j := j.toNat) (v := .int v) (by rw [List.getElem?_map, hv]; rfl)
    rwa [show ((j.toNat : Nat) : Int) = j by have := hj.1; omega] at this
  walk_at "A.go"
  refine ix_asL (asL_own ha) hx ?_
  walk_at "A.go"
  by_cases e : v = j
  · simp only [e, decide_true, Bool.not_true, Bool.false_eq_true, if_false]
    refine ret ?_
    rw [← (p3.mp e), ej]
    exact q
  · simp only [e, decide_false, Bool.not_false, if_true]
    refine ix_asL (asL_own ha) hx ?_
    exact ⟨dep v, p4 e, v, rfl, rfl, p1, p2.trans ej, rfl⟩
theorem law_Ties_worth_of (K : PySem.W.Frag) : ∀ ds S Q E, sp_Ties_worth_of K ds S Q E → a_Ties_worth_of K (aEnd Q E) (startA ["self", "heap", "above", "found", "thing", "one", "other", "place"] ds) S := by
  rintro ds S Q E ⟨y, n, es, d, hp, rfl, h, hd, hr, hz, q⟩
  unfold a_Ties_worth_of
  walk_at "A.go"
  refine ⟨_, _, _, h.ins, h.ok, rfl, ?_⟩
  walk_at "A.go"
  have hok := h.ok
  obtain ⟨hS, ⟨n1, n12, hes, hti⟩, hkf, hso⟩ := h
  refine ⟨RgOk.of_le (by omega) (by omega) (by omega) (by omega), .inr fun a ha => ?_⟩
  have e0 : rngD 0 ((n : Int)).toNat = (rng n).map .int := by rw [rngD0]; rfl
  rw [e0]
  have hSub : Sub S (put S a (.lst ((rng n).map .int))) := sub_del ha
  refine iter_asL (asL_sub hSub hd) fun G hG => ?_
  refine aLoop_inv (fun i ρ S' => ∃ vs dep b1 b2 b3, ρ = [some (.own y), some d, some (.own a), some (.int (n - cnt n (labs ((hp.take i).map (tieAt es))))), b1, b2, b3, none] ∧ S' a = some (.lst (vs.map .int)) ∧ (∀ c, ¬ c = a → S' c = S c) ∧
    UF n vs (labs ((hp.take i).map (tieAt es))) dep) ?_ ?_ ?_
  · rintro i z ρ S' nx hi ⟨vs, dep, b1, b2, b3, rfl, hvs, hoth, u⟩ hn
    rw [List.getElem?_map] at hi
    obtain ⟨k, hk, rfl⟩ := Option.map_eq_some_iff.mp hi
    have hkr := hr k (List.mem_of_getElem? hk)
    have sub' : Sub S S' := sub_but hoth (by rintro c rfl; exact ha)
    refine ⟨hG S' (asL_sub sub' hd), ?_⟩
    have hS' := sub' _ _ hS
    have hins : insOf S' (.own y) = some ((Yd.ties n es).cls K, (Yd.ties n es).flds) := by unfold insOf; simp only [hS']
    walk_at "A.go"
    refine ⟨_, _, _, hins, hok, rfl, ?_⟩
    walk_at "A.go"
    refine ⟨_, atI_map (getD_get (x := (0, 0)) hkr) hkr.1, ?_⟩
    rw [show es.getD k.toNat (0, 0) = tieAt es k from rfl]
    unfold prD
    walk_at "A.go"
    have hte : InR n (tieAt es k).1 ∧ InR n (tieAt es k).2 := hti _ (getD_mem (x := (0, 0)) hkr)
    have hlab : labs ((hp.take (i + 1)).map (tieAt es)) = stepLab (labs ((hp.take i).map (tieAt es))) (tieAt es k) := by
      rw [List.take_add_one, hk]
      simp only [Option.toList, List.map_append, List.map_cons, List.map_nil]
      exact labs_snoc _ _
    generalize labs ((hp.take i).map (tieAt es)) = lab at u hlab ⊢
    generalize tieAt es k = e at hte hlab ⊢
    refine aLcL_map (fun d => match d with | .int i => .int (lab i) | d => d) trivial ?_ (.inl ?_)
    · intro d' hd' k' hk'
      have one : ∀ j, InR n j → k' (.int (lab j)) S' → aCl (sp_piece_of K) (aCons (aVar 2) (aCons (aVar 7) aNil)) [some (.own y), some d, some (.own a), some (.int (n - cnt n lab)), some (.int k), b2, b3, some (.int j)] S' k' noX := by
        intro j hj hq
        walk_at "A.go"
        exact ⟨a, j, n, vs, lab, dep, rfl, hvs, u, hj, ret hq⟩
      rcases List.mem_cons.mp hd' with rfl | hd'
      · exact one _ hte.1 hk'
      · cases List.mem_singleton.mp hd'
        exact one _ hte.2 hk'
    · walk_at "A.go"
      refine ⟨_, rfl, rfl, rfl, ?_⟩
      walk_at "A.go"
      by_cases eq : lab e.1 = lab e.2
      · simp only [eq, decide_true, Bool.not_true, Bool.false_eq_true, if_false]
        refine hn _ _ ⟨vs, dep, some (.int k), some (.int (lab e.2)), some (.int (lab e.2)), ?_, hvs, hoth, ?_⟩
        · rw [hlab, step_same eq]
        · rw [hlab, step_same eq]; exact u
      · simp only [eq, decide_false, Bool.not_false, if_true]
        obtain ⟨r0, r1⟩ := (u.rg _ hte.1).1
        refine put_own (j := (lab e.1).toNat) hvs ?_ ?_
        · unfold ixN
          rw [List.length_map, u.len, if_pos r0, if_pos r1]
        · refine hn _ _ ⟨vs.set (lab e.1).toNat (lab e.2), fun i => if lab i = lab e.1 then dep i + 1 else if i = lab e.2 then 0 else dep i + 1, some (.int k), some (.int (lab e.1)), some (.int (lab e.2)), ?_, ?_, ?_, ?_⟩
          · rw [hlab]
            have := cnt_union hte.1 hte.2 (fun i hi => (u.rg i hi).1) eq
            have e3 : ((n : Int) - cnt n lab + 1) = (n : Int) - cnt n (stepLab lab e) := by omega
            rw [e3]
          · rw [put_same, List.map_set]
          · intro c hc
            rw [put_ne hc]
            exact hoth c hc
          · rw [hlab]
            exact uf_union u hte.1 hte.2 eq
  · rintro ρ S' ⟨vs, dep, b1, b2, b3, rfl, hvs, hoth, u⟩
    have sub' : Sub S S' := sub_but hoth (by rintro c rfl; exact ha)
    refine ⟨hG S' (asL_sub sub' hd), ?_⟩
    walk_at "A.go"
    rw [List.length_map, List.take_length]
    exact ret_drop q sub'
  · refine ⟨rng n, fun _ => 0, none, none, none, ?_, put_same, fun c hc => put_ne hc, uf_start⟩
    show _ = [some (.own y), some d, some (.own a), some (D.int ((n : Int) - cnt n (fun i => i))), none, none, none, none]
    rw [cnt_id, Int.sub_self]
def frD (fr : List (Nat × Nat)) : List (Key × D) := fr.map fun p => (.inl (p.1 : Int), .int (p.2 : Int))
theorem frD_val {fr : List (Nat × Nat)} {k : Nat} : valA (frD fr) (.inl (k : Int)) = (fr.find? fun p => decide (p.1 = k)).map fun p => .int (p.2 : Int) := by
  unfold valA frD
  induction fr with
  | nil => rfl
  | cons p fr ih =>
    rw [List.map_cons, List.find?_cons, List.find?_cons]
    have e : decide ((Sum.inl (p.1 : Int) : Key) = .inl (k : Int)) = decide (p.1 = k) := by
      by_cases h : p.1 = k
      · subst h; simp
      · have : ¬ ((p.1 : Int) = k) := by omega
        simp [h, this]
    rw [e]
    cases decide (p.1 = k) with
    | true => rfl
    | false => exact ih
theorem frD_in {fr : List (Nat × Nat)} {k : Nat} : (valA (frD fr) (.inl (k : Int))).isSome = decide (k ∈ fr.map (·.1)) := by
  rw [frD_val]
  induction fr with
  | nil => rfl
  | cons p fr ih =>
    rw [List.find?_cons]
    by_cases h : p.1 = k
    · simp [h]
    · rw [decide_eq_false h]
      simp only
      rw [ih]
      simp [Ne.symm h]
theorem nodup_cast {l : List Nat} (h : l.Nodup) : (l.map fun (n : Nat) => (n : Int)).Nodup := List.Pairwise.map _ (fun a b (q : a ≠ b) z => q (by omega)) h
theorem frD_put {fr : List (Nat × Nat)} {k v : Nat} (h : k ∉ fr.map (·.1)) : putKA (frD fr) (.inl (k : Int)) (.int (v : Int)) = frD (fr ++ [(k, v)]) := by
  unfold putKA
  have e : ((frD fr).any fun p => decide (p.1 = .inl (k : Int))) = false := by
    refine Bool.eq_false_iff.mpr fun z => h ?_
    obtain ⟨p, hp, q⟩ := List.any_eq_true.mp z
    obtain ⟨r, hr, rfl⟩ := List.mem_map.mp hp
    have q2 := of_decide_eq_true q
    have : r.1 = k := by have := Sum.inl.inj q2; omega
    exact List.mem_map.mpr ⟨r, hr, this⟩
  rw [e, if_neg Bool.false_ne_true]
  unfold frD
  rw [List.map_append]
  rfl
theorem law_Rows_worth_of (K : PySem.W.Frag) : ∀ ds S Q E, sp_Rows_worth_of K ds S Q E → a_Rows_worth_of K (aEnd Q E) (startA ["self", "heap", "free", "thing", "row"] ds) S := by
  rintro ds S Q E ⟨y, rs, d, hp, rfl, h, hd, hr, q⟩
  unfold a_Rows_worth_of
  walk_at "A.go"
  simp only [aDNew]
  intro a ha
  have hSub : Sub S (put S a (.dct [])) := sub_del ha
  have hs : sizeLine = 16777216 := sizeLine_eq
  refine iter_asL (asL_sub hSub hd) fun G hG => ?_
  refine aLoop_inv (fun i ρ S' => ∃ fr b1 b2, ρ = [some (.own y), some d, some (.own a), b1, b2] ∧ S' a = some (.dct (frD fr)) ∧ (∀ c, ¬ c = a → S' c = S c) ∧ Red ((hp.take i).map (natAt rs)).reverse fr) ?_ ?_ ?_
  · rintro i z ρ S' nx hi ⟨fr, b1, b2, rfl, hf, hoth, red⟩ hn
    rw [List.getElem?_map] at hi
    obtain ⟨k, hk, rfl⟩ := Option.map_eq_some_iff.mp hi
    have hkr := hr k (List.mem_of_getElem? hk)
    have sub' : Sub S S' := sub_but hoth (by rintro c rfl; exact ha)
    refine ⟨hG S' (asL_sub sub' hd), ?_⟩
    have hS' := sub' _ _ h.1
    have hins : insOf S' (.own y) = some ((Yd.rows rs).cls K, (Yd.rows rs).flds) := by unfold insOf; simp only [hS']
    walk_at "A.go"
    refine ⟨_, _, _, hins, h.ok, rfl, ?_⟩
    walk_at "A.go"
    refine ⟨_, atI_map (getD_get (x := 0) hkr) hkr.1, ?_⟩
    rw [show rs.getD k.toNat 0 = natAt rs k from rfl]
    have hlow : natAt rs k < 2 ^ 12 := h.2.1.2 _ (getD_mem (x := 0) hkr)
    have htk : ((hp.take (i + 1)).map (natAt rs)).reverse = natAt rs k :: ((hp.take i).map (natAt rs)).reverse := by
      rw [List.take_add_one, hk]
      simp
    rw [htk] at hn
    have hll : ∀ x ∈ ((hp.take i).map (natAt rs)).reverse, x < 2 ^ 12 := fun x hx => by
      obtain ⟨j, hj, rfl⟩ := List.mem_map.mp (List.mem_reverse.mp hx)
      exact h.2.1.2 _ (getD_mem (x := 0) (hr j (List.mem_of_mem_take hj)))
    generalize ((hp.take i).map (natAt rs)).reverse = l at red hn hll
    generalize natAt rs k = r at hlow hn ⊢
    refine ⟨fun m ρ S2 => ∃ r', ρ = [some (.own y), some d, some (.own a), some (.int k), some (nD r')] ∧ S2 = S' ∧ Spn l (r ^^^ r') ∧ m = bl r', ⟨bl r, r, rfl, rfl, by rw [Nat.xor_self]; exact spn_zero l, rfl⟩, ?_⟩
    rintro m ρ S2 ⟨r', rfl, rfl, hsp, rfl⟩
    unfold nD
    walk_at "A.go"
    simp only [aDIn, aBits]
    walk_at "A.go"
    refine ⟨frD fr, _, dctOf_own hf, rfl, ?_⟩
    rw [bits_nat, frD_in]
    by_cases hb : bl r' ∈ fr.map (·.1)
    · rw [decide_eq_true hb]
      walk_at "A.go"
      simp only [aDIx, aBits]
      walk_at "A.go"
      obtain ⟨p, hp1, hp2⟩ := List.mem_map.mp hb
      have hfind : ∃ p', (fr.find? fun p => decide (p.1 = bl r')) = some p' := by
        cases e : fr.find? fun p => decide (p.1 = bl r') with
        | some p' => exact ⟨p', rfl⟩
        | none =>
          have := List.find?_eq_none.mp e p hp1
          exact (this (decide_eq_true hp2)).elim
      obtain ⟨p', hp'⟩ := hfind
      have hm := List.mem_of_find?_eq_some hp'
      have hbl := of_decide_eq_true (List.find?_some (p := fun p : Nat × Nat => decide (p.1 = bl r')) hp')
      obtain ⟨g1, g2, g3⟩ := red.bit p' hm
      refine ⟨frD fr, .inl (bl r' : Nat), .int (p'.2 : Int), dctOf_own hf, by rw [bits_nat]; rfl, by rw [frD_val, hp']; rfl, ?_⟩
      walk_at "A.go"
      have hx : Builtin.bitXor (r' : Int) (p'.2 : Int) = ((r' ^^^ p'.2 : Nat) : Int) := xor_nat _ _
      rw [hx]
      have hr0 : r' ≠ 0 := by
        rintro rfl
        rw [bl_zero] at hbl
        have := bl_pos g1
        omega
      refine ⟨bl (r' ^^^ p'.2), bl_xor_eq hr0 (by omega), r' ^^^ p'.2, rfl, trivial, ?_, rfl⟩
      rw [← Nat.xor_assoc]
      exact spn_xor hsp g3
    · rw [decide_eq_false hb]
      walk_at "A.go"
      by_cases h0 : r' = 0
      · subst h0
        rw [decide_eq_false (show ¬ (0 : Int) < ((0 : Nat) : Int) by omega)]
        walk_at "A.go"
        rw [Nat.xor_zero] at hsp
        exact hn _ _ ⟨fr, _, _, rfl, hf, hoth, red_sum red hsp⟩
      · rw [decide_eq_true (show (0 : Int) < (r' : Int) by omega)]
        walk_at "A.go"
        simp only [aDPut, aBits]
        walk_at "A.go"
        have hfl : fr.length ≤ 1000 := by
          have hb := nodup_le (n := 13) (L := (fr.map (·.1)).map fun (n : Nat) => (n : Int)) (nodup_cast red.nd) fun x hx => by
            obtain ⟨n, hn1, rfl⟩ := List.mem_map.mp hx
            obtain ⟨p, hp1, rfl⟩ := List.mem_map.mp hn1
            obtain ⟨g1, g2, g3⟩ := red.bit p hp1
            have := bl_le.mpr (spn_lt hll g3)
            exact ⟨by omega, by omega⟩
          rw [List.length_map, List.length_map] at hb
          omega
        refine ⟨a, frD fr, .inl (bl r' : Nat), rfl, hf, by rw [bits_nat]; rfl, by unfold frD; rw [List.length_map]; omega, ?_⟩
        refine hn _ _ ⟨fr ++ [(bl r', r')], _, _, rfl, ?_, fun c hc => by rw [put_ne hc]; exact hoth c hc, red_new red hsp h0 hb⟩
        rw [put_same, frD_put hb]
  · rintro ρ S' ⟨fr, b1, b2, rfl, hf, hoth, red⟩
    have sub' : Sub S S' := sub_but hoth (by rintro c rfl; exact ha)
    refine ⟨hG S' (asL_sub sub' hd), ?_⟩
    walk_at "A.go"
    simp only [aLenD]
    rw [List.length_map, List.take_length] at red
    refine ⟨_, frD fr, rfl, dctOf_own hf, ret_drop ?_ sub'⟩
    have e : (frD fr).length = rk (hp.map (natAt rs)).reverse := by unfold frD; rw [List.length_map]; exact red.len
    rw [e]
    exact q
  · exact ⟨[], none, none, rfl, put_same, fun c hc => put_ne hc, red_nil⟩

/-! #### lots -/
def cntL (ts ls : List Nat) : List Int := (List.range ts.length).map fun k => (ls.count k : Nat)
theorem cntL_get {ts ls : List Nat} {k : Nat} (h : k < ts.length) : (cntL ts ls)[k]? = some ((ls.count k : Nat) : Int) := by
  unfold cntL
  rw [List.getElem?_map, List.getElem?_range h]
  rfl
theorem cntL_set {ts ls : List Nat} {l : Nat} : (cntL ts ls).set l ((ls.count l : Nat) + 1 : Int) = cntL ts (ls ++ [l]) := by
  refine List.ext_getElem? fun k => ?_
  by_cases h : k < ts.length
  · rw [cntL_get h, List.count_append]
    by_cases e : l = k
    · subst e
      rw [List.getElem?_set_self (by unfold cntL; simpa using h)]
      simp
    · rw [List.getElem?_set_ne e, cntL_get h]
      simp [e]
  · rw [List.getElem?_eq_none (by rw [List.length_set]; unfold cntL; simpa using Nat.le_of_not_lt h), List.getElem?_eq_none (by unfold cntL; simpa using Nat.le_of_not_lt h)]
theorem cntL_nil {ts : List Nat} : cntL ts [] = List.replicate ts.length 0 := by
  unfold cntL
  rw [show (fun k => ((([] : List Nat).count k : Nat) : Int)) = fun _ => 0 from funext fun k => by simp]
  rw [List.map_const', List.length_range]
theorem cast_sum : ∀ l : List Nat, (l.map fun (n : Nat) => (n : Int)).sum = (l.sum : Nat)
  | [] => rfl
  | a :: l => by rw [List.map_cons, List.sum_cons, List.sum_cons, cast_sum l]; omega
theorem law_Lots_worth_of (K : PySem.W.Frag) : ∀ ds S Q E, sp_Lots_worth_of K ds S Q E → a_Lots_worth_of K (aEnd Q E) (startA ["self", "heap", "counts", "thing", "count", "top"] ds) S := by
  rintro ds S Q E ⟨y, ts, ls, d, hp, rfl, h, hd, hr, hz, q⟩
  unfold a_Lots_worth_of
  walk_at "A.hop"
  obtain ⟨t8, ht, l24, hl⟩ := h.2.1
  have hs : sizeLine = 16777216 := sizeLine_eq
  refine ⟨by omega, .inl ⟨_, _, _, h.ins, h.ok, rfl, .lst (ts.map nD), ts.length, rfl, by show some (ts.map nD).length = _; rw [List.length_map], [.int 0], ts.length, rfl, rfl, by omega, by omega, by simp; omega, .inr fun a ha => ?_⟩⟩
  walk_at "A.hop"
  have e0 : (List.replicate ((ts.length : Int)).toNat [D.int 0]).flatten = (cntL ts []).map .int := by
    rw [cntL_nil, List.map_replicate, show ((ts.length : Int)).toNat = ts.length from rfl, List.flatten_replicate_singleton]
  rw [e0]
  have hSub : Sub S (put S a (.lst ((cntL ts []).map .int))) := sub_del ha
  refine iter_asL (asL_sub hSub hd) fun G hG => ?_
  refine aLoop_inv (fun i ρ S' => ∃ b1, ρ = [some (.own y), some d, some (.own a), b1, none, none] ∧ S' a = some (.lst ((cntL ts ((hp.take i).map (natAt ls))).map .int)) ∧ ∀ c, ¬ c = a → S' c = S c) ?_ ?_ ⟨none, rfl, put_same, fun c hc => put_ne hc⟩
  · rintro i z ρ S' nx hi ⟨b1, rfl, hvs, hoth⟩ hn
    rw [List.getElem?_map] at hi
    obtain ⟨k, hk, rfl⟩ := Option.map_eq_some_iff.mp hi
    have hkr := hr k (List.mem_of_getElem? hk)
    have sub' : Sub S S' := sub_but hoth (by rintro c rfl; exact ha)
    have h' := h.sub sub'
    refine ⟨hG S' (asL_sub sub' hd), ?_⟩
    walk_at "A.hop"
    have hlt : natAt ls k < ts.length := hl _ (getD_mem (x := 0) hkr)
    refine ⟨_, _, _, h'.ins, h'.ok, rfl, ?_⟩
    walk_at "A.hop"
    refine ⟨_, atI_map (getD_get (x := 0) hkr) hkr.1, ?_⟩
    rw [show ls.getD k.toNat 0 = natAt ls k from rfl]
    refine ⟨_, natAt ls k, _, asL_own hvs, rfl, by omega, by rw [List.getElem?_map, show ((natAt ls k : Nat) : Int).toNat = natAt ls k from rfl, cntL_get hlt]; rfl, ?_⟩
    walk_at "A.hop"
    refine put_own (j := natAt ls k) hvs ?_ (hn _ _ ⟨some (.int k), rfl, ?_, fun c hc => by rw [put_ne hc]; exact hoth c hc⟩)
    · unfold ixN
      rw [List.length_map, if_pos (by omega), if_pos (by unfold cntL; rw [List.length_map, List.length_range]; omega)]
      rfl
    · rw [put_same, ← List.map_set, cntL_set, List.take_add_one, hk, List.map_append]
      rfl
  · rintro ρ S' ⟨b1, rfl, hvs, hoth⟩
    rw [List.length_map, List.take_length] at hvs
    have sub' : Sub S S' := sub_but hoth (by rintro c rfl; exact ha)
    have h' := h.sub sub'
    refine ⟨hG S' (asL_sub sub' hd), ?_⟩
    walk_at "A.hop"
    refine ⟨_, _, _, h'.ins, h'.ok, rfl, _, _, _, _, rfl, asL_own hvs, rfl, ?_⟩
    have q2 : Q (.int ((worthL ts (hp.map (natAt ls)) : Nat))) S := q
    unfold worthL at q2
    generalize hp.map (natAt ls) = ms at hvs q2 ⊢
    refine aLcL_inv (fun j acc S2 => S2 = S' ∧ acc = (((List.range ts.length).take j).map fun k => min (ms.count k) (ts.getD k 0)).map fun (n : Nat) => D.int n) ?_ ?_ ⟨rfl, rfl⟩
    · rintro j x acc S2 k hx ⟨rfl, rfl⟩ hk
      obtain ⟨x1, x2, g1, g2, rfl⟩ := zipD_get hx
      have jl : j < ts.length := by
        have := (List.getElem?_eq_some_iff.mp g2).1
        simpa using this
      rw [List.getElem?_map, cntL_get jl] at g1
      rw [List.getElem?_map, List.getElem?_eq_getElem jl] at g2
      cases g1
      cases g2
      refine ⟨⟨asL_own hvs, rfl⟩, ?_⟩
      walk_at "A.hop"
      refine ⟨_, rfl, rfl, rfl, ?_⟩
      unfold nD
      walk_at "A.hop"
      refine ⟨trivial, hk _ _ ⟨rfl, ?_⟩⟩
      rw [List.take_add_one, List.getElem?_range jl]
      simp only [Option.toList, List.map_append, List.map_cons, List.map_nil]
      congr 2
      rw [List.getD_eq_getElem?_getD, List.getElem?_eq_getElem jl]
      show D.int _ = D.int _
      congr 1
      show (if ((ts[j] : Nat) : Int) < ((ms.count j : Nat) : Int) then ((ts[j] : Nat) : Int) else ((ms.count j : Nat) : Int)) = ((min (ms.count j) ts[j] : Nat) : Int)
      split <;> omega
    · rintro acc S2 ⟨rfl, rfl⟩
      refine ⟨⟨asL_own hvs, rfl⟩, .inl ⟨_, _, ((List.range ts.length).map fun k => min (ms.count k) (ts.getD k 0)).map fun (n : Nat) => (n : Int), rfl, rfl, ?_, ret_drop ?_ sub'⟩⟩
      · rw [zipD_len, List.length_map, List.length_map, show (cntL ts ms).length = ts.length by unfold cntL; simp, Nat.min_self, List.take_of_length_le (by simp)]
        rw [show (fun (n : Nat) => D.int (n : Int)) = D.int ∘ fun (n : Nat) => (n : Int) from rfl, ← List.map_map]
        exact intsOf_map _
      · rw [cast_sum]
        exact q2
/-! #### made -/
theorem okY_of {K : PySem.W.Frag} {s : So} (h : s ∈ sorts K) : okY K (s.cls K) := ⟨s, all_so s, h, rfl⟩
theorem asL_put {S : Sto} {y : Addr} {c : Cell} {d : D} {l : List D} (h : asL S d = some l) (n : d ≠ .own y) : asL (put S y c) d = some l := by
  cases d with
  | lst m => exact h
  | own a =>
    have : a ≠ y := by rintro rfl; exact n rfl
    exact asL_own (by rw [put_ne this]; exact asL_inv h)
  | _ => cases h
theorem law_Ties_init (K : PySem.W.Frag) : ∀ ds S Q E, sp_Ties_init K ds S Q E → a_Ties_init K (aEnd Q E) (startA ["self", "places", "pairs", "pair"] ds) S := by
  rintro ds S Q E ⟨y, n, d, es, rfl, hy, hd, hne, ⟨n1, n12, hes, hti⟩, hso, q⟩
  unfold a_Ties_init
  walk_at "A.hop"
  refine ⟨n, 13, rfl, ret ?_⟩
  rw [decide_eq_true (show (0 : Int) ≤ n by omega), decide_eq_true (show (n : Int) < 13 by omega)]
  walk_at "A.hop"
  rw [Bool.and_self]
  walk_at "A.hop"
  rw [decide_eq_false (show ¬ (n : Int) = 0 by omega)]
  walk_at "A.hop"
  refine ⟨d, _, rfl, hd, by rw [List.length_map]; exact hes, ret ?_⟩
  refine iter_asL hd fun G hG => ?_
  refine aLcL_map (fun _ => .bl true) (hG S hd) ?_ (.inl ?_)
  · intro d' hd' k hk
    obtain ⟨e, he, rfl⟩ := List.mem_map.mp hd'
    walk_at "A.hop"
    exact ⟨e, n, rfl, (hti e he).1, (hti e he).2, ret hk⟩
  · refine ⟨_, List.replicate (List.map prD es).length true, rfl, by rw [all_true]; rfl, by simp, ret ?_⟩
    refine ⟨d, _, rfl, lenD_asL hd, y, es.length, _, by rw [List.length_map], hy, okY_of hso, hes, ret ?_⟩
    refine ⟨y, _, _, rfl, put_same, okY_of hso, show (2 : Nat) < 1000 by decide, d, es.map prD, rfl, itD_asL (by rw [put_put]; exact asL_put hd hne), .inl ⟨y, _, _, rfl, put_same, okY_of hso, show (3 : Nat) < 1000 by decide, ret ?_⟩⟩
    rw [put_put, put_put]
    exact q
theorem law_Rows_init (K : PySem.W.Frag) : ∀ ds S Q E, sp_Rows_init K ds S Q E → a_Rows_init K (aEnd Q E) (startA ["self", "rows", "row"] ds) S := by
  rintro ds S Q E ⟨y, d, rs, rfl, hy, hd, hne, ⟨hz, hl⟩, hso, q⟩
  unfold a_Rows_init
  walk_at "A.hop"
  refine ⟨d, _, rfl, hd, by rw [List.length_map]; exact hz, ret ?_⟩
  refine iter_asL hd fun G hG => ?_
  refine aLcL_map (fun _ => .bl true) (hG S hd) ?_ (.inl ?_)
  · intro d' hd' k hk
    obtain ⟨e, he, rfl⟩ := List.mem_map.mp hd'
    have := hl e he
    walk_at "A.hop"
    refine ⟨e, 4096, rfl, ret ?_⟩
    rw [decide_eq_true (show (0 : Int) ≤ e by omega), decide_eq_true (show (e : Int) < 4096 by omega)]
    exact hk
  · refine ⟨_, List.replicate (List.map nD rs).length true, rfl, by rw [all_true]; rfl, by simp, ret ?_⟩
    refine ⟨d, _, rfl, lenD_asL hd, y, rs.length, _, by rw [List.length_map], hy, okY_of hso, hz, ret ?_⟩
    refine ⟨d, rs.map nD, rfl, itD_asL (asL_put hd hne), .inl ⟨y, _, _, rfl, put_same, okY_of hso, show (2 : Nat) < 1000 by decide, ret ?_⟩⟩
    rw [put_put]
    exact q
theorem law_Lots_init (K : PySem.W.Frag) : ∀ ds S Q E, sp_Lots_init K ds S Q E → a_Lots_init K (aEnd Q E) (startA ["self", "tops", "lots", "lot"] ds) S := by
  rintro ds S Q E ⟨y, d, e, ts, ls, rfl, hy, hd, he, hne, hne2, ⟨t8, ht, l24, hl⟩, hso, q⟩
  unfold a_Lots_init
  walk_at "A.hop"
  refine ⟨d, ts, rfl, hd, t8, ht, ret ?_⟩
  walk_at "A.hop"
  refine ⟨e, _, rfl, he, by rw [List.length_map]; exact l24, ret ?_⟩
  refine iter_asL he fun G hG => ?_
  refine aLcL_map (fun _ => .bl true) (hG S he) ?_ (.inl ?_)
  · intro d' hd' k hk
    obtain ⟨l, hl', rfl⟩ := List.mem_map.mp hd'
    have := hl l hl'
    walk_at "A.hop"
    refine ⟨d, ts.length, rfl, by rw [lenD_asL hd, List.length_map], l, ts.length, rfl, ret ?_⟩
    rw [decide_eq_true (show (0 : Int) ≤ l by omega), decide_eq_true (show (l : Int) < ts.length by omega)]
    exact hk
  · refine ⟨_, List.replicate (List.map nD ls).length true, rfl, by rw [all_true]; rfl, by simp, ret ?_⟩
    refine ⟨e, _, rfl, lenD_asL he, y, ls.length, _, by rw [List.length_map], hy, okY_of hso, l24, ret ?_⟩
    refine ⟨d, ts.map nD, rfl, itD_asL (asL_put hd hne), .inl ⟨y, _, _, rfl, put_same, okY_of hso, show (2 : Nat) < 1000 by decide, e, ls.map nD, rfl, itD_asL (by rw [put_put]; exact asL_put he hne2), .inl ⟨y, _, _, rfl, put_same, okY_of hso, show (3 : Nat) < 1000 by decide, ret ?_⟩⟩⟩
    rw [put_put, put_put]
    exact q
theorem law_Seats_init (K : PySem.W.Frag) : ∀ ds S Q E, sp_Seats_init K ds S Q E → a_Seats_init K (aEnd Q E) (startA ["self", "seats", "rows", "row"] ds) S := by
  rintro ds S Q E ⟨y, n, d, rs, rfl, hy, hd, hne, ⟨n12, hz, hl⟩, hso, q⟩
  unfold a_Seats_init
  walk_at "A.hop"
  refine ⟨n, 13, rfl, ret ?_⟩
  rw [decide_eq_true (show (0 : Int) ≤ n by omega), decide_eq_true (show (n : Int) < 13 by omega), Bool.and_self]
  walk_at "A.hop"
  refine ⟨d, _, rfl, hd, by rw [List.length_map]; exact hz, ret ?_⟩
  refine iter_asL hd fun G hG => ?_
  refine aLcL_map (fun _ => .bl true) (hG S hd) ?_ (.inl ?_)
  · intro d' hd' k hk
    obtain ⟨r, hr, rfl⟩ := List.mem_map.mp hd'
    walk_at "A.hop"
    exact ⟨iD r, n, r, rfl, rfl, hl r hr, by omega, ret hk⟩
  · refine ⟨_, List.replicate (List.map iD rs).length true, rfl, by rw [all_true]; rfl, by simp, ret ?_⟩
    refine ⟨d, _, rfl, lenD_asL hd, y, rs.length, _, by rw [List.length_map], hy, okY_of hso, hz, ret ?_⟩
    refine ⟨y, _, _, rfl, put_same, okY_of hso, show (2 : Nat) < 1000 by decide, ?_⟩
    refine iter_asL (by rw [put_put]; exact asL_put hd hne) fun G2 hG2 => ?_
    refine aLcL_map (fun d => d) (hG2 _ (by rw [put_put]; exact asL_put hd hne)) ?_ (.inl ?_)
    · intro d' hd' k hk
      obtain ⟨r, hr, rfl⟩ := List.mem_map.mp hd'
      walk_at "A.hop"
      exact ⟨iD r, _, rfl, rfl, .inl hk⟩
    · rw [List.map_id']
      refine ⟨y, _, _, rfl, put_same, okY_of hso, show (3 : Nat) < 1000 by decide, ret ?_⟩
      rw [put_put, put_put]
      exact q
end A

namespace A
open PySem PySem.Spec L2 PyProof.Rows
local macro_rules | `(tactic| walk_at "A.go") => `(tactic| simp only [aSeq, aNext, aSet, aVar, atV_s, onB_b, onI_i, onII_i, onL1_i, onL2_i, it_l, it_t, it_s, it_x, ix_l, ix_t, ix_s, add_i, add_x, eq_i, eq_x, eq_b, is_b, aC, aNil, aCons, aOp, aUn, aTup, aLst, aCB, aNot, aAnd, aOr, aTst, aIfE, aAndV, aOrV, aNotV, aChn, aDrop, aRet, aRetN, aIf, agName, agNil, agCons, agTup, aAsg, aPar, aAug, aFor, aRng1, aRng2, aIter, aLc, aYes,
  aCl, aMt, aMk, aFl, aFst, aNeg, aI2, aI20, aLe, aLt, aGt, aGe, aSub, aMod, aMul, aFdv, aPow, aXor, aShl, aShr, agSub, aoN, aoS, aSl, aRev, aLen, aList, aTupOf, aLRg1, aLRg2, aAbs, aI2N, aMax, aMin, aDm, aAll, aAny, aBM, aApp, aPopAt, aPop, aClear, aRevM, aExt, aRepr, aClD, aLnSt, aIAdd, aBreak, aCont,
  aEnd, startA, List.map_cons, List.map_nil, List.cons_append, List.nil_append, List.length_cons, List.length_nil, List.replicate, List.getElem?_cons_zero, List.getElem?_cons_succ, List.set_cons_zero, List.set_cons_succ, Nat.reduceAdd, Nat.reduceSub, Nat.succ_eq_add_one, Int.reduceAdd, Int.reduceMul,
  reduceIte, Bool.false_eq_true, Bool.not_true, Bool.not_false, ite_true, ite_false])
local macro_rules | `(tactic| walk_at "A.hop") => `(tactic| try simp only [aMtF, aFmt, aJs, aEqO, aNeO, aReprF, aRevT, aIsiT, aInt, aStrI, aEnum, aZip, aMulL, aCount, aAugS, aSetOf, aSrtSet, aSum, aDNew, aDIn, aDIx, aDPut, aLenD, aListD, aBits, aDsp1, aBool, aSorted, wipeA, aSeq, aNext, aSet, aVar, atV_s, onB_b, onI_i, onII_i, onL1_i, onL2_i, it_l, it_t, it_s, it_x, ix_l, ix_t, ix_s, add_i, add_x, eq_i, eq_x, eq_b, is_b, aC, aNil, aCons, aOp, aUn, aTup, aLst, aCB, aNot, aAnd, aOr, aTst, aIfE, aAndV, aOrV, aNotV, aChn, aDrop, aRet, aRetN, aIf, agName, agNil, agCons, agTup, aAsg, aPar, aAug, aFor, aRng1, aRng2, aIter, aLc, aYes,
  aCl, aMt, aMk, aFl, aFst, aNeg, aI2, aI20, aLe, aLt, aGt, aGe, aSub, aMod, aMul, aFdv, aPow, aXor, aShl, aShr, agSub, aoN, aoS, aSl, aRev, aLen, aList, aTupOf, aLRg1, aLRg2, aAbs, aI2N, aMax, aMin, aDm, aAll, aAny, aBM, aApp, aPopAt, aPop, aClear, aRevM, aExt, aRepr, aClD, aLnSt, aIAdd, aBreak, aCont,
  aEnd, startA, List.map_cons, List.map_nil, List.cons_append, List.nil_append, List.length_cons, List.length_nil, List.replicate, List.getElem?_cons_zero, List.getElem?_cons_succ, List.set_cons_zero, List.set_cons_succ, Nat.reduceAdd, Nat.reduceSub, Nat.succ_eq_add_one, Int.reduceAdd, Int.reduceMul,
  reduceIte, Bool.false_eq_true, Bool.not_true, Bool.not_false, ite_true, ite_false])
/-! ### who sits where -/
theorem sitD_val {M : Mt} {s : Int} : valA (sitD M) (.inl s) = (M.find? fun p => decide (p.1 = s)).map fun p => .int p.2 := by
  unfold valA sitD
  induction M with
  | nil => rfl
  | cons p M ih =>
    rw [List.map_cons, List.find?_cons, List.find?_cons]
    have e : decide ((Sum.inl p.1 : Key) = .inl s) = decide (p.1 = s) := by
      by_cases h : p.1 = s
      · subst h; simp
      · simp [h]
    rw [e]
    cases decide (p.1 = s) with
    | true => rfl
    | false => exact ih
theorem find_key {M : Mt} {s : Int} (h : s ∈ M.map (·.1)) : ∃ a, (s, a) ∈ M ∧ (M.find? fun p => decide (p.1 = s)) = some (s, a) := by
  cases e : M.find? fun p => decide (p.1 = s) with
  | some p =>
    have h1 := List.mem_of_find?_eq_some e
    have h2 : p.1 = s := of_decide_eq_true (List.find?_some (p := fun p : Int × Int => decide (p.1 = s)) e)
    subst h2
    exact ⟨p.2, h1, rfl⟩
  | none =>
    obtain ⟨p, hp, q⟩ := List.mem_map.mp h
    have := List.find?_eq_none.mp e p hp
    exact (this (decide_eq_true q)).elim
theorem sitD_in {M : Mt} {s : Int} : (valA (sitD M) (.inl s)).isSome = decide (s ∈ M.map (·.1)) := by
  rw [sitD_val]
  by_cases h : s ∈ M.map (·.1)
  · obtain ⟨a, _, e⟩ := find_key h
    rw [e, decide_eq_true h]; rfl
  · rw [decide_eq_false h, List.find?_eq_none.mpr fun p hp z => h (List.mem_map.mpr ⟨p, hp, of_decide_eq_true z⟩)]; rfl
theorem sitD_any {M : Mt} {s : Int} : ((sitD M).any fun p => decide (p.1 = .inl s)) = decide (s ∈ M.map (·.1)) := by
  unfold sitD
  rw [List.any_map]
  refine bool_iff ?_
  rw [List.any_eq_true, decide_eq_true_iff]
  constructor
  · rintro ⟨p, hp, e⟩
    have e2 : (Sum.inl p.1 : Key) = .inl s := of_decide_eq_true e
    exact List.mem_map.mpr ⟨p, hp, Sum.inl.inj e2⟩
  · intro h
    obtain ⟨p, hp, e⟩ := List.mem_map.mp h
    exact ⟨p, hp, decide_eq_true (show (Sum.inl p.1 : Key) = .inl s by rw [e])⟩
theorem sitD_new {M : Mt} {s t : Int} (h : s ∉ M.map (·.1)) : putKA (sitD M) (.inl s) (.int t) = sitD (M ++ [(s, t)]) := by
  unfold putKA
  rw [sitD_any, decide_eq_false h, if_neg Bool.false_ne_true]
  unfold sitD
  rw [List.map_append]
  rfl
theorem sitD_set {M : Mt} {s t : Int} (h : s ∈ M.map (·.1)) : putKA (sitD M) (.inl s) (.int t) = sitD (setM M s t) := by
  unfold putKA
  rw [sitD_any, decide_eq_true h, if_pos rfl]
  unfold sitD setM
  rw [List.map_map, List.map_map]
  refine List.map_congr_left fun p _ => ?_
  show (if (Sum.inl p.1 : Key) = .inl s then ((Sum.inl p.1 : Key), D.int t) else (.inl p.1, .int p.2)) = ((.inl (if p.1 = s then (s, t) else p).1 : Key), D.int (if p.1 = s then (s, t) else p).2)
  by_cases e : p.1 = s
  · rw [if_pos e, if_pos (by rw [e]), e]
  · rw [if_neg e, if_neg fun z => e (Sum.inl.inj z)]
theorem sitD_len {M : Mt} : (sitD M).length = M.length := by unfold sitD; rw [List.length_map]
theorem put_swap {S : Sto} {a b : Addr} {x y : Cell} (h : a ≠ b) : put (put S b x) a y = put (put S a y) b x := by
  funext c
  unfold put
  by_cases h1 : c = a
  · rw [if_pos h1, if_neg (by rw [h1]; exact h), if_pos h1]
  · by_cases h2 : c = b
    · rw [if_neg h1, if_pos h2, if_pos h2]
    · rw [if_neg h1, if_neg h2, if_neg h2, if_neg h1]
theorem row_mem {rs : List (List Int)} {t : Int} (h : InR rs.length t) : rowAt rs t ∈ rs := getD_mem h
theorem FndIn.seat {n : Nat} {rs : List (List Int)} {f : Nat} {t : Int} {M : Mt} {tr : List Int} (I : FndIn n rs f t M tr) {t' s : Int} (ht : InR rs.length t') (hs : s ∈ rowAt rs t') : InR n s := (I.rows _ (row_mem ht)).2 s hs
theorem FndIn.mlen {n : Nat} {rs : List (List Int)} {f : Nat} {t : Int} {M : Mt} {tr : List Int} (I : FndIn n rs f t M tr) : M.length ≤ 12 := by
  have := sub_len I.beg.kn (m := rng n) fun x hx => by
    obtain ⟨p, hp, rfl⟩ := List.mem_map.mp hx
    exact mem_rngI.mpr (I.seat (I.hM p hp) (I.beg.ed p hp))
  rw [List.length_map, rng_length] at this
  have := I.n12
  omega
theorem trlen {n : Nat} {tr : List Int} (nd : tr.Nodup) (rg : ∀ s ∈ tr, InR n s) : tr.length ≤ n := by
  have := sub_len nd (m := rng n) fun x hx => mem_rngI.mpr (rg x hx)
  rwa [rng_length] at this
theorem zero_finds_seat (K : PySem.W.Frag) : ∀ ds S Q E, ¬ sp_finds_seat K 0 ds S Q E := by
  rintro ds S Q E ⟨rs, t, a, b, M, tr, n, rfl, ha, hb, hab, I, _⟩
  have := trlen I.nd I.rg
  have := I.fuel
  omega
theorem law_finds_seat (K : PySem.W.Frag) (f : Nat) : ∀ ds S Q E, sp_finds_seat K (f + 1) ds S Q E → a_finds_seat K (sp_finds_seat K f) (aEnd Q E) (startA ["rows", "thing", "sits", "tried", "seat"] ds) S := by
  rintro ds S Q E ⟨rs, t, a, b, M, tr, n, rfl, ha, hb, hab, I, qs, qf⟩
  unfold a_finds_seat
  walk_at "A.hop"
  have hs24 : sizeLine = 16777216 := sizeLine_eq
  refine ⟨_, atI_map (getD_get (x := []) I.ht) I.ht.1, ?_⟩
  rw [show rs.getD t.toNat [] = rowAt rs t from rfl]
  unfold iD
  walk_at "A.hop"
  refine aLoop_inv (fun j ρ S' => ∃ (trj : List Int) (b4 : Option D), ρ = [some (.lst (rs.map iD)), some (.int t), some (.own a), some (.own b), b4] ∧ S' = put S b (.lst (trj.map .int)) ∧ Fai (rowAt rs) tr M ((rowAt rs t).take j) trj ∧ trj.Nodup ∧ ∀ s ∈ trj, InR n s) ?_ ?_ ?_
  · rintro j z ρ S' nx hj ⟨trj, b4, rfl, rfl, fa, ndj, rgj⟩ hn
    rw [List.getElem?_map] at hj
    obtain ⟨s, hsj, rfl⟩ := Option.map_eq_some_iff.mp hj
    have hsr : s ∈ rowAt rs t := List.mem_of_getElem? hsj
    have tk : (rowAt rs t).take (j + 1) = (rowAt rs t).take j ++ [s] := by rw [List.take_add_one, hsj]; rfl
    rw [tk] at hn
    refine ⟨trivial, ?_⟩
    walk_at "A.hop"
    refine in_ints put_same ?_
    by_cases hst : s ∈ trj
    · rw [decide_eq_true hst]
      walk_at "A.hop"
      exact hn _ _ ⟨trj, _, rfl, rfl, fai_old fa hst, ndj, rgj⟩
    · rw [decide_eq_false hst]
      walk_at "A.hop"
      have hl := trlen ndj rgj
      have hn12 := I.n12
      refine ⟨⟨_, asL_own put_same⟩, b, _, _, rfl, put_same, rfl, by rw [List.length_map]; omega, ?_⟩
      rw [put_put, show List.map D.int trj ++ [D.int s] = (trj ++ [s]).map .int by rw [List.map_append]; rfl]
      have hs0 : s ∉ tr := fun z => hst (fa.sub s z)
      have sa : ∀ l, put S b (.lst l) a = some (.dct (sitD M)) := fun l => by rw [put_ne hab]; exact ha
      refine ⟨sitD M, _, dctOf_own (sa _), rfl, ?_⟩
      rw [sitD_in]
      have nd1 : (trj ++ [s]).Nodup := by
        rw [List.nodup_append]
        exact ⟨ndj, by simp, fun x hx y hy => by rw [List.mem_singleton.mp hy]; rintro rfl; exact hst hx⟩
      have rg1 : ∀ x ∈ trj ++ [s], InR n x := fun x hx => by
        rcases List.mem_append.mp hx with hx | hx
        · exact rgj x hx
        · rw [List.mem_singleton.mp hx]; exact I.seat I.ht hsr
      have ml := I.mlen
      by_cases hk : s ∈ M.map (·.1)
      · rw [decide_eq_true hk]
        walk_at "A.hop"
        obtain ⟨a0, hm, hf⟩ := find_key hk
        refine ⟨sitD M, _, .int a0, dctOf_own (sa _), rfl, by rw [sitD_val, hf]; rfl, ?_⟩
        refine ⟨rs, a0, a, b, M, trj ++ [s], n, rfl, sa _, put_same, hab, ⟨I.rows, I.n12, I.z, I.hM _ hm, I.hM, nd1, rg1, ?_, beg_in I.beg fa.sub hs0 hm⟩, ?_, ?_⟩
        · have := sub_len I.nd fa.sub
          have := I.fuel
          rw [List.length_append, List.length_singleton]
          omega
        · intro M2 tr2 k hM2 nd2 rg2
          refine ret ?_
          walk_at "A.hop"
          have hk2 := suc_key k hm
          have ml2 : M2.length < sizeLine := by rw [k.len]; omega
          refine ⟨a, sitD M2, _, rfl, by rw [put_ne hab, put_same], rfl, by rw [sitD_len]; exact ml2, ret ?_⟩
          rw [sitD_set hk2, put_swap hab, put_swap hab, put_swap hab, put_put, put_put]
          refine qs _ tr2 (suc_moved I.beg fa.sub hs0 hst hm hsr k) (fun p hp => ?_) nd2 rg2
          rcases mem_setM.mp hp with ⟨rfl, _⟩ | ⟨hp, _⟩
          · exact I.ht
          · exact hM2 p hp
        · intro tr2 k nd2 rg2
          refine ret ?_
          walk_at "A.hop"
          rw [put_put]
          exact hn _ _ ⟨tr2, _, rfl, rfl, fai_in fa hm k, nd2, rg2⟩
      · rw [decide_eq_false hk]
        walk_at "A.hop"
        refine ⟨a, sitD M, _, rfl, sa _, rfl, by rw [sitD_len]; omega, ret ?_⟩
        rw [sitD_new hk, put_swap hab]
        refine qs _ _ (suc_free I.beg hs0 hsr hk) (fun p hp => ?_) nd1 rg1
        rcases List.mem_append.mp hp with hp | hp
        · exact I.hM p hp
        · rw [List.mem_singleton.mp hp]; exact I.ht
  · rintro ρ S' ⟨trj, b4, rfl, rfl, fa, ndj, rgj⟩
    rw [List.length_map, List.take_length] at fa
    refine ⟨trivial, ?_⟩
    walk_at "A.hop"
    exact ret (qf trj fa ndj rgj)
  · exact ⟨tr, none, rfl, (put_id hb).symm, fai_nil, I.nd, I.rg⟩
theorem zero_finds (K : PySem.W.Frag) : ∀ ds S Q E, ¬ sp_finds K 0 ds S Q E := by
  rintro ds S Q E ⟨rs, t, a, b, M, tr, n, rfl, ha, hb, hab, I, _⟩
  have := trlen I.nd I.rg
  have := I.fuel
  omega
theorem law_finds (K : PySem.W.Frag) (f : Nat) : ∀ ds S Q E, sp_finds K (f + 1) ds S Q E → a_finds K (sp_finds K f) (aEnd Q E) (startA ["_law_thing", "_law_rows", "_law_sits", "_law_tried", "_law_seat"] ds) S := by
  rintro ds S Q E ⟨rs, t, a, b, M, tr, n, rfl, ha, hb, hab, I, qs, qf⟩
  unfold a_finds
  walk_at "A.hop"
  have hs24 : sizeLine = 16777216 := sizeLine_eq
  refine ⟨_, atI_map (getD_get (x := []) I.ht) I.ht.1, ?_⟩
  rw [show rs.getD t.toNat [] = rowAt rs t from rfl]
  unfold iD
  walk_at "A.hop"
  refine aLoop_inv (fun j ρ S' => ∃ (trj : List Int) (b4 : Option D), ρ = [some (.int t), some (.lst (rs.map iD)), some (.own a), some (.own b), b4] ∧ S' = put S b (.lst (trj.map .int)) ∧ Fai (rowAt rs) tr M ((rowAt rs t).take j) trj ∧ trj.Nodup ∧ ∀ s ∈ trj, InR n s) ?_ ?_ ?_
  · rintro j z ρ S' nx hj ⟨trj, b4, rfl, rfl, fa, ndj, rgj⟩ hn
    rw [List.getElem?_map] at hj
    obtain ⟨s, hsj, rfl⟩ := Option.map_eq_some_iff.mp hj
    have hsr : s ∈ rowAt rs t := List.mem_of_getElem? hsj
    have tk : (rowAt rs t).take (j + 1) = (rowAt rs t).take j ++ [s] := by rw [List.take_add_one, hsj]; rfl
    rw [tk] at hn
    refine ⟨trivial, ?_⟩
    walk_at "A.hop"
    refine in_ints put_same ?_
    by_cases hst : s ∈ trj
    · rw [decide_eq_true hst]
      walk_at "A.hop"
      exact hn _ _ ⟨trj, _, rfl, rfl, fai_old fa hst, ndj, rgj⟩
    · rw [decide_eq_false hst]
      walk_at "A.hop"
      have hl := trlen ndj rgj
      have hn12 := I.n12
      refine ⟨⟨_, asL_own put_same⟩, b, _, _, rfl, put_same, rfl, by rw [List.length_map]; omega, ?_⟩
      rw [put_put, show List.map D.int trj ++ [D.int s] = (trj ++ [s]).map .int by rw [List.map_append]; rfl]
      have hs0 : s ∉ tr := fun z => hst (fa.sub s z)
      have sa : ∀ l, put S b (.lst l) a = some (.dct (sitD M)) := fun l => by rw [put_ne hab]; exact ha
      refine ⟨sitD M, _, dctOf_own (sa _), rfl, ?_⟩
      rw [sitD_in]
      have nd1 : (trj ++ [s]).Nodup := by
        rw [List.nodup_append]
        exact ⟨ndj, by simp, fun x hx y hy => by rw [List.mem_singleton.mp hy]; rintro rfl; exact hst hx⟩
      have rg1 : ∀ x ∈ trj ++ [s], InR n x := fun x hx => by
        rcases List.mem_append.mp hx with hx | hx
        · exact rgj x hx
        · rw [List.mem_singleton.mp hx]; exact I.seat I.ht hsr
      have ml := I.mlen
      by_cases hk : s ∈ M.map (·.1)
      · rw [decide_eq_true hk]
        walk_at "A.hop"
        obtain ⟨a0, hm, hf⟩ := find_key hk
        refine ⟨sitD M, _, .int a0, dctOf_own (sa _), rfl, by rw [sitD_val, hf]; rfl, ?_⟩
        refine ⟨rs, a0, a, b, M, trj ++ [s], n, rfl, sa _, put_same, hab, ⟨I.rows, I.n12, I.z, I.hM _ hm, I.hM, nd1, rg1, ?_, beg_in I.beg fa.sub hs0 hm⟩, ?_, ?_⟩
        · have := sub_len I.nd fa.sub
          have := I.fuel
          rw [List.length_append, List.length_singleton]
          omega
        · intro M2 tr2 k hM2 nd2 rg2
          refine ret ?_
          walk_at "A.hop"
          have hk2 := suc_key k hm
          have ml2 : M2.length < sizeLine := by rw [k.len]; omega
          refine ⟨a, sitD M2, _, rfl, by rw [put_ne hab, put_same], rfl, by rw [sitD_len]; exact ml2, ret ?_⟩
          rw [sitD_set hk2, put_swap hab, put_swap hab, put_swap hab, put_put, put_put]
          refine qs _ tr2 (suc_moved I.beg fa.sub hs0 hst hm hsr k) (fun p hp => ?_) nd2 rg2
          rcases mem_setM.mp hp with ⟨rfl, _⟩ | ⟨hp, _⟩
          · exact I.ht
          · exact hM2 p hp
        · intro tr2 k nd2 rg2
          refine ret ?_
          walk_at "A.hop"
          rw [put_put]
          exact hn _ _ ⟨tr2, _, rfl, rfl, fai_in fa hm k, nd2, rg2⟩
      · rw [decide_eq_false hk]
        walk_at "A.hop"
        refine ⟨a, sitD M, _, rfl, sa _, rfl, by rw [sitD_len]; omega, ret ?_⟩
        rw [sitD_new hk, put_swap hab]
        refine qs _ _ (suc_free I.beg hs0 hsr hk) (fun p hp => ?_) nd1 rg1
        rcases List.mem_append.mp hp with hp | hp
        · exact I.hM p hp
        · rw [List.mem_singleton.mp hp]; exact I.ht
  · rintro ρ S' ⟨trj, b4, rfl, rfl, fa, ndj, rgj⟩
    rw [List.length_map, List.take_length] at fa
    refine ⟨trivial, ?_⟩
    walk_at "A.hop"
    exact ret (qf trj fa ndj rgj)
  · exact ⟨tr, none, rfl, (put_id hb).symm, fai_nil, I.nd, I.rg⟩
theorem sub_ab {S : Sto} {a b : Addr} {x y z w : Cell} (hb : S b = none) (hab : a ≠ b) : Sub (put S a w) (put (put (put (put S a x) b y) a w) b z) := fun c v e => by
  by_cases h1 : c = b
  · subst h1
    rw [put_ne (Ne.symm hab), hb] at e
    cases e
  · rw [put_ne h1]
    by_cases h2 : c = a
    · subst h2
      rw [put_same] at e ⊢
      exact e
    · rw [put_ne h2] at e ⊢
      rw [put_ne h1, put_ne h2]
      exact e
theorem sub_b {S : Sto} {a b : Addr} {x y z : Cell} (hb : S b = none) (hab : a ≠ b) : Sub (put S a x) (put (put (put S a x) b y) b z) := fun c v e => by
  by_cases h1 : c = b
  · subst h1
    rw [put_ne (Ne.symm hab), hb] at e
    cases e
  · rw [put_ne h1, put_ne h1]
    exact e
theorem fnd_at {n : Nat} {rs : List (List Int)} {t : Int} {M : Mt} {H : List Int} (ok : (Yd.seats n rs).Ok) (si : SInv (rowAt rs) H M) (hH : ∀ i ∈ H, InR rs.length i) (ht : InR rs.length t) (hn : t ∉ H) : FndIn n rs 13 t M [] :=
  ⟨ok.2.2, ok.1, ok.2.1, ht, fun p hp => hH _ (si.ok.ok p hp).1, List.nodup_nil, fun _ h => (List.not_mem_nil h).elim, by have := ok.1; simp; omega, sinv_beg si hn⟩
theorem MOk.perm {row : Int → List Int} {H H' : List Int} {M : Mt} (m : MOk row H M) (h : ∀ x ∈ H, x ∈ H') : MOk row H' M := ⟨m.kn, m.vn, fun p hp => ⟨h _ (m.ok p hp).1, (m.ok p hp).2⟩⟩
theorem law_seated (K : PySem.W.Frag) : ∀ ds S Q E, sp_seated K ds S Q E → a_seated K (aEnd Q E) (startA ["rows", "heap", "sits", "thing"] ds) S := by
  rintro ds S Q E ⟨rs, n, e, hp, rfl, he, ok, hnd, hr, q⟩
  unfold a_seated
  walk_at "A.hop"
  intro a ha
  have hSub : ∀ c, Sub S (put S a c) := fun c => sub_del ha
  refine iter_asL (asL_sub (hSub _) he) fun G hG => ?_
  refine aLoop_inv (fun j ρ S' => ∃ M b3, ρ = [some (.lst (rs.map iD)), some e, some (.own a), b3] ∧ S' = put S a (.dct (sitD M)) ∧ SInv (rowAt rs) (hp.take j).reverse M) ?_ ?_ ?_
  · rintro j z ρ S' nx hj ⟨M, b3, rfl, rfl, si⟩ hn
    rw [List.getElem?_map] at hj
    obtain ⟨t, htj, rfl⟩ := Option.map_eq_some_iff.mp hj
    have ht := hr t (List.mem_of_getElem? htj)
    have tk : (hp.take (j + 1)).reverse = t :: (hp.take j).reverse := by rw [List.take_add_one, htj]; simp
    have hnt : t ∉ (hp.take j).reverse := fun z => by
      have hnd2 := hnd
      rw [← List.take_append_drop j hp, List.nodup_append] at hnd2
      obtain ⟨lt, et⟩ := List.getElem?_eq_some_iff.mp htj
      exact hnd2.2.2 t (List.mem_reverse.mp z) t (by rw [List.drop_eq_getElem_cons lt, et]; exact List.mem_cons_self) rfl
    rw [tk] at hn
    refine ⟨hG _ (asL_sub (hSub _) he), ?_⟩
    walk_at "A.hop"
    refine ⟨Nat.zero_le _, .inr fun b hb => ?_⟩
    have hab : a ≠ b := by rintro rfl; rw [put_same] at hb; cases hb
    have hbS : S b = none := by rw [put_ne (Ne.symm hab)] at hb; exact hb
    refine ⟨rs, t, a, b, M, [], n, rfl, by rw [put_ne hab, put_same], put_same, hab, fnd_at ok si (fun i hi => hr i (List.mem_of_mem_take (List.mem_reverse.mp hi))) ht hnt, ?_, ?_⟩
    · intro M' tr' k _ nd rg
      refine ret_drop (S' := put S a (.dct (sitD M'))) (hn _ _ ⟨M', _, rfl, rfl, sinv_suc si hnt k⟩) (sub_ab hbS hab)
    · intro tr' k nd rg
      refine ret_drop (S' := put S a (.dct (sitD M))) (hn _ _ ⟨M, _, rfl, rfl, sinv_fai si hnt k nd⟩) (sub_b hbS hab)
  · rintro ρ S' ⟨M, b3, rfl, rfl, si⟩
    rw [List.length_map, List.take_length] at si
    refine ⟨hG _ (asL_sub (hSub _) he), ?_⟩
    walk_at "A.hop"
    refine ret (q a M ha (si.ok.perm fun x hx => List.mem_reverse.mp hx) ?_)
    rw [← si.worth]
    exact worthS_perm ((List.reverse_perm hp).map _)
  · exact ⟨[], none, rfl, rfl, sinv_nil⟩
theorem law_Seats_worth_of (K : PySem.W.Frag) : ∀ ds S Q E, sp_Seats_worth_of K ds S Q E → a_Seats_worth_of K (aEnd Q E) (startA ["self", "heap"] ds) S := by
  rintro ds S Q E ⟨y, n, rs, d, hp, rfl, h, hd, hnd, hr, q⟩
  unfold a_Seats_worth_of
  walk_at "A.hop"
  refine ⟨_, _, _, h.ins, h.ok, rfl, rs, n, d, hp, rfl, hd, h.2.1, hnd, hr, fun a M ha ok e => ret ⟨_, sitD M, rfl, dctOf_own put_same, ret_drop ?_ (sub_del ha)⟩⟩
  rw [sitD_len, e]
  exact q
theorem natSum_snoc (l : List Int) (x : Int) : (l ++ [x]).sum = l.sum + x := by induction l with
  | nil => simp
  | cons a l ih => simp only [List.cons_append, List.sum_cons, ih]; omega
theorem rowAt_rng (rs : List (List Int)) : (rng rs.length).map (rowAt rs) = rs := by
  refine List.ext_getElem? fun i => ?_
  by_cases h : i < rs.length
  · rw [List.getElem?_map, rng_get h, List.getElem?_eq_getElem h]
    show some (rowAt rs (i : Int)) = _
    unfold rowAt
    rw [show ((i : Int)).toNat = i from rfl, List.getD_eq_getElem?_getD, List.getElem?_eq_getElem h]
    rfl
  · rw [List.getElem?_eq_none (by rw [List.length_map, rng_length]; omega), List.getElem?_eq_none (by omega)]
theorem law_sitting (K : PySem.W.Frag) : ∀ ds S Q E, sp_sitting K ds S Q E → a_sitting K (aEnd Q E) (startA ["_law_rows", "_law_sits", "_law_k"] ds) S := by
  rintro ds S Q E ⟨rs, n, rfl, ok, q⟩
  unfold a_sitting
  walk_at "A.hop"
  intro a ha
  have hl24 := ok.2.1
  refine ⟨_, rs.length, rfl, by show some (rs.map iD).length = _; rw [List.length_map], by omega, by omega, ?_⟩
  have e0 : rngD 0 ((rs.length : Int)).toNat = (rng rs.length).map .int := by rw [rngD0]; rfl
  rw [e0]
  refine aLcL_inv (fun j acc S' => ∃ M ns, acc = List.map D.int ns ∧ ns.sum = (M.length : Nat) ∧ S' = put S a (.dct (sitD M)) ∧ SInv (rowAt rs) ((rng rs.length).take j).reverse M) ?_ ?_ ⟨[], [], rfl, rfl, rfl, sinv_nil⟩
  · rintro j z acc S' nx hj ⟨M, ns, rfl, hsum, rfl, si⟩ hn
    rw [List.getElem?_map] at hj
    obtain ⟨t, htj, rfl⟩ := Option.map_eq_some_iff.mp hj
    have ht := mem_rngI.mp (List.mem_of_getElem? htj)
    have tk : ((rng rs.length).take (j + 1)).reverse = t :: ((rng rs.length).take j).reverse := by rw [List.take_add_one, htj]; simp
    have hnt : t ∉ ((rng rs.length).take j).reverse := fun z => by
      have hnd2 := rng_nodup (n := rs.length)
      rw [← List.take_append_drop j (rng rs.length), List.nodup_append] at hnd2
      obtain ⟨lt, et⟩ := List.getElem?_eq_some_iff.mp htj
      exact hnd2.2.2 t (List.mem_reverse.mp z) t (by rw [List.drop_eq_getElem_cons lt, et]; exact List.mem_cons_self) rfl
    rw [tk] at hn
    refine ⟨trivial, ?_⟩
    walk_at "A.hop"
    refine ⟨Nat.zero_le _, .inr fun b hb => ?_⟩
    have hab : a ≠ b := by rintro rfl; rw [put_same] at hb; cases hb
    have hbS : S b = none := by rw [put_ne (Ne.symm hab)] at hb; exact hb
    refine ⟨rs, t, a, b, M, [], n, rfl, by rw [put_ne hab, put_same], put_same, hab, fnd_at ok si (fun i hi => mem_rngI.mp (List.mem_of_mem_take (List.mem_reverse.mp hi))) ht hnt, ?_, ?_⟩
    · intro M' tr' k _ nd rg
      refine ret_drop (S' := put S a (.dct (sitD M'))) (.inr ⟨true, rfl, hn _ _ ⟨M', ns ++ [1], by rw [List.map_append]; rfl, by rw [natSum_snoc, hsum, k.len]; omega, rfl, sinv_suc si hnt k⟩⟩) (sub_ab hbS hab)
    · intro tr' k nd rg
      refine ret_drop (S' := put S a (.dct (sitD M))) (.inr ⟨false, rfl, hn _ _ ⟨M, ns ++ [0], by rw [List.map_append]; rfl, by rw [natSum_snoc, hsum]; omega, rfl, sinv_fai si hnt k nd⟩⟩) (sub_b hbS hab)
  · rintro acc S' ⟨M, ns, rfl, hsum, rfl, si⟩
    rw [List.length_map, List.take_length] at si
    refine ⟨trivial, .inl ⟨_, _, ns, rfl, rfl, intsOf_map ns, ret_drop ?_ (sub_del ha)⟩⟩
    rw [hsum, ← si.worth, worthS_perm ((List.reverse_perm _).map _), rowAt_rng]
    exact q
end A

namespace A
open PySem PySem.Spec L2 PyProof.Rows
local macro_rules | `(tactic| walk_at "A.go") => `(tactic| simp only [aSeq, aNext, aSet, aVar, atV_s, onB_b, onI_i, onII_i, onL1_i, onL2_i, it_l, it_t, it_s, it_x, ix_l, ix_t, ix_s, add_i, add_x, eq_i, eq_x, eq_b, is_b, aC, aNil, aCons, aOp, aUn, aTup, aLst, aCB, aNot, aAnd, aOr, aTst, aIfE, aAndV, aOrV, aNotV, aChn, aDrop, aRet, aRetN, aIf, agName, agNil, agCons, agTup, aAsg, aPar, aAug, aFor, aRng1, aRng2, aIter, aLc, aYes,
  aCl, aMt, aMk, aFl, aFst, aNeg, aI2, aI20, aLe, aLt, aGt, aGe, aSub, aMod, aMul, aFdv, aPow, aXor, aShl, aShr, agSub, aoN, aoS, aSl, aRev, aLen, aList, aTupOf, aLRg1, aLRg2, aAbs, aI2N, aMax, aMin, aDm, aAll, aAny, aBM, aApp, aPopAt, aPop, aClear, aRevM, aExt, aRepr, aClD, aLnSt, aIAdd, aBreak, aCont,
  aEnd, startA, List.map_cons, List.map_nil, List.cons_append, List.nil_append, List.length_cons, List.length_nil, List.replicate, List.getElem?_cons_zero, List.getElem?_cons_succ, List.set_cons_zero, List.set_cons_succ, Nat.reduceAdd, Nat.reduceSub, Nat.succ_eq_add_one, Int.reduceAdd, Int.reduceMul,
  reduceIte, Bool.false_eq_true, Bool.not_true, Bool.not_false, ite_true, ite_false])
local macro_rules | `(tactic| walk_at "A.hop") => `(tactic| try simp only [aMtF, aFmt, aJs, aEqO, aNeO, aReprF, aRevT, aIsiT, aInt, aStrI, aEnum, aZip, aMulL, aCount, aAugS, aSetOf, aSrtSet, aSum, aDNew, aDIn, aDIx, aDPut, aLenD, aListD, aBits, aDsp1, aBool, aSorted, wipeA, aSeq, aNext, aSet, aVar, atV_s, onB_b, onI_i, onII_i, onL1_i, onL2_i, it_l, it_t, it_s, it_x, ix_l, ix_t, ix_s, add_i, add_x, eq_i, eq_x, eq_b, is_b, aC, aNil, aCons, aOp, aUn, aTup, aLst, aCB, aNot, aAnd, aOr, aTst, aIfE, aAndV, aOrV, aNotV, aChn, aDrop, aRet, aRetN, aIf, agName, agNil, agCons, agTup, aAsg, aPar, aAug, aFor, aRng1, aRng2, aIter, aLc, aYes,
  aCl, aMt, aMk, aFl, aFst, aNeg, aI2, aI20, aLe, aLt, aGt, aGe, aSub, aMod, aMul, aFdv, aPow, aXor, aShl, aShr, agSub, aoN, aoS, aSl, aRev, aLen, aList, aTupOf, aLRg1, aLRg2, aAbs, aI2N, aMax, aMin, aDm, aAll, aAny, aBM, aApp, aPopAt, aPop, aClear, aRevM, aExt, aRepr, aClD, aLnSt, aIAdd, aBreak, aCont,
  aEnd, startA, List.map_cons, List.map_nil, List.cons_append, List.nil_append, List.length_cons, List.length_nil, List.replicate, List.getElem?_cons_zero, List.getElem?_cons_succ, List.set_cons_zero, List.set_cons_succ, Nat.reduceAdd, Nat.reduceSub, Nat.succ_eq_add_one, Int.reduceAdd, Int.reduceMul,
  reduceIte, Bool.false_eq_true, Bool.not_true, Bool.not_false, ite_true, ite_false])
/-! ### the laws' own worth -/
theorem met_spec (val : Nat → Int) : ∀ n : Nat, (firstMet val n).Nodup ∧ ∀ k, k ∈ firstMet val n ↔ ∃ i, i < n ∧ val i = k
  | 0 => ⟨List.nodup_nil, fun k => ⟨fun h => (List.not_mem_nil h).elim, fun ⟨i, h, _⟩ => absurd h (Nat.not_lt_zero i)⟩⟩
  | n + 1 => by
    obtain ⟨h1, h2⟩ := met_spec val n
    rw [firstMet_succ]
    unfold step_dedup
    by_cases c : (firstMet val n).any (· == val n) = true
    · rw [if_pos c]
      obtain ⟨x, hx, e⟩ := List.any_eq_true.mp c
      have e' : x = val n := by simpa using e
      subst e'
      refine ⟨h1, fun k => (h2 k).trans ⟨fun ⟨i, hi, q⟩ => ⟨i, by omega, q⟩, fun ⟨i, hi, q⟩ => ?_⟩⟩
      by_cases z : i = n
      · subst z
        rw [← q]
        exact (h2 _).mp hx
      · exact ⟨i, by omega, q⟩
    · rw [if_neg c]
      refine ⟨?_, fun k => ?_⟩
      · rw [List.nodup_append]
        refine ⟨h1, by simp, fun a ha b hb => ?_⟩
        rw [List.mem_singleton.mp hb]
        rintro rfl
        exact c (List.any_eq_true.mpr ⟨_, ha, by simp⟩)
      · rw [List.mem_append, h2, List.mem_singleton]
        constructor
        · rintro (⟨i, hi, q⟩ | rfl)
          · exact ⟨i, by omega, q⟩
          · exact ⟨n, by omega, rfl⟩
        · rintro ⟨i, hi, q⟩
          by_cases z : i = n
          · subst z; exact .inr q.symm
          · exact .inl ⟨i, by omega, q⟩
theorem unl_spec (ns : List Int) : ∃ l : List Int, l.Nodup ∧ (∀ k, k ∈ l ↔ k ∈ ns) ∧ l.length = unl ns := by
  refine ⟨_, (met_spec _ ns.length).1, fun k => ((met_spec _ ns.length).2 k).trans ?_, rfl⟩
  constructor
  · rintro ⟨i, hi, q⟩
    rw [List.getD_eq_getElem?_getD, List.getElem?_eq_getElem hi] at q
    rw [← q]
    exact List.getElem_mem hi
  · intro h
    obtain ⟨i, hi, q⟩ := List.getElem_of_mem h
    exact ⟨i, hi, by rw [List.getD_eq_getElem?_getD, List.getElem?_eq_getElem hi]; exact q⟩
theorem len_eq {l m : List Int} (h1 : l.Nodup) (h2 : m.Nodup) (h : ∀ k, k ∈ l ↔ k ∈ m) : l.length = m.length := Nat.le_antisymm (sub_len h1 fun x hx => (h x).mp hx) (sub_len h2 fun x hx => (h x).mpr hx)
theorem unl_cnt {n : Nat} {lab : Int → Int} (r : ∀ i, InR n i → InR n (lab i)) : unl ((rng n).map lab) = cnt n lab := by
  obtain ⟨l, h1, h2, h3⟩ := unl_spec ((rng n).map lab)
  rw [← h3]
  unfold cnt cntS
  refine len_eq h1 (rng_nodup.sublist List.filter_sublist) fun k => ?_
  rw [h2, List.mem_filter, any_lab, List.mem_map]
  constructor
  · rintro ⟨i, hi, rfl⟩
    exact ⟨mem_rngI.mpr (r i (mem_rngI.mp hi)), i, hi, rfl⟩
  · rintro ⟨_, i, hi, e⟩
    exact ⟨i, hi, e⟩
theorem atI_rng {n : Nat} {lab : Int → Int} {i : Int} (h : InR n i) : atI (((rng n).map lab).map D.int) i = some (.int (lab i)) := by
  have hi : (rng n)[i.toNat]? = some i := by
    rw [rng_get (by have := h.1; have := h.2; omega)]
    have := h.1
    rw [show ((i.toNat : Nat) : Int) = i by omega]
  exact atI_map (by rw [List.getElem?_map, hi]; rfl) h.1
theorem law_joined_places (K : PySem.W.Frag) : ∀ ds S Q E, sp_joined_places K ds S Q E → a_joined_places K (aEnd Q E) (startA ["_law_places", "_law_pairs_here", "_law_found", "_law_a", "_law_b", "_law_one", "_law_other", "_law_piece"] ds) S := by
  rintro ds S Q E ⟨n, d, es, rfl, hd, n12, hti, q⟩
  unfold a_joined_places
  walk_at "A.hop"
  refine ⟨RgOk.of_le (by omega) (by omega) (by omega) (by omega), .inl ?_⟩
  have e0 : rngD 0 ((n : Int)).toNat = ((rng n).map (labs [])).map .int := by
    rw [rngD0, show labs [] = fun i => i from rfl, List.map_id']
    rfl
  rw [e0]
  refine iter_asL hd fun G hG => ?_
  refine aLoop_inv (fun j ρ S' => ∃ lab b3 b4 b5 b6, ρ = [some (.int n), some d, some (.lst (((rng n).map lab).map .int)), b3, b4, b5, b6, none] ∧ S' = S ∧ Good n (es.take j) lab) ?_ ?_ ⟨labs [], none, none, none, none, rfl, rfl, good_labs fun _ h => (List.not_mem_nil h).elim⟩
  · rintro j z ρ S' nx hj ⟨lab, b3, b4, b5, b6, rfl, rfl, g⟩ hn
    rw [List.getElem?_map] at hj
    obtain ⟨e, hej, rfl⟩ := Option.map_eq_some_iff.mp hj
    have he := hti e (List.mem_of_getElem? hej)
    have tk : es.take (j + 1) = es.take j ++ [e] := by rw [List.take_add_one, hej]; rfl
    rw [tk] at hn
    refine ⟨hG _ hd, ?_⟩
    unfold prD
    walk_at "A.hop"
    refine ⟨_, rfl, rfl, rfl, ?_⟩
    walk_at "A.hop"
    refine ⟨_, atI_rng he.1, _, atI_rng he.2, two_line, ?_⟩
    walk_at "A.hop"
    refine ⟨_, rfl, rfl, rfl, ?_⟩
    walk_at "A.hop"
    refine aLcL_map (fun x => match x with | .int i => .int (if i = lab e.1 ∨ i = lab e.2 then min (lab e.1) (lab e.2) else i) | x => x) trivial ?_ (.inl ?_)
    · intro d' hd' k' hk'
      obtain ⟨v, hv, rfl⟩ := List.mem_map.mp hd'
      walk_at "A.hop"
      refine ⟨two_line, .inl ⟨v, [lab e.1, lab e.2], rfl, rfl, ?_⟩⟩
      walk_at "A.hop"
      by_cases c : v = lab e.1 ∨ v = lab e.2
      · rw [decide_eq_true (show v ∈ [lab e.1, lab e.2] by simpa using c)]
        walk_at "A.hop"
        refine ⟨trivial, ?_⟩
        have hk2 : k' (.int (if v = lab e.1 ∨ v = lab e.2 then min (lab e.1) (lab e.2) else v)) S' := hk'
        rw [if_pos c] at hk2
        rw [show (if lab e.2 < lab e.1 then lab e.2 else lab e.1) = min (lab e.1) (lab e.2) by split <;> omega]
        exact hk2
      · rw [decide_eq_false (show ¬ v ∈ [lab e.1, lab e.2] by simpa using c)]
        walk_at "A.hop"
        have hk2 : k' (.int (if v = lab e.1 ∨ v = lab e.2 then min (lab e.1) (lab e.2) else v)) S' := hk'
        rw [if_neg c] at hk2
        exact hk2
    · refine hn _ _ ⟨stepMin lab e, some (.int e.1), some (.int e.2), some (.int (lab e.1)), some (.int (lab e.2)), ?_, rfl, good_min g he.1 he.2⟩
      rw [List.map_map, List.map_map, List.map_map]
      rfl
  · rintro ρ S' ⟨lab, b3, b4, b5, b6, rfl, rfl, g⟩
    rw [List.length_map, List.take_length] at g
    refine ⟨hG _ hd, ?_⟩
    walk_at "A.hop"
    refine ⟨_, (rng n).map lab, rfl, intsOf_map _, by rw [List.length_map, rng_length]; omega, ret ?_⟩
    rw [unl_cnt g.rg, cnt_good g (good_labs hti)]
    exact q
theorem law_free_rows (K : PySem.W.Frag) : ∀ ds S Q E, sp_free_rows K ds S Q E → a_free_rows K (aEnd Q E) (startA ["_law_rows", "_law_found", "_law_row", "_law_one"] ds) S := by
  rintro ds S Q E ⟨d, rs, rfl, hd, hz, q⟩
  unfold a_free_rows
  walk_at "A.hop"
  have hs : sizeLine = 16777216 := sizeLine_eq
  refine ⟨Nat.zero_le _, .inr fun a ha => ?_⟩
  have hSub : ∀ c, Sub S (put S a c) := fun c => sub_del ha
  refine iter_asL (asL_sub (hSub _) hd) fun G hG => ?_
  refine aLoop_inv (fun j ρ S' => ∃ fo b2 b3, ρ = [some d, some (.own a), b2, b3] ∧ S' = put S a (.lst (List.map nD fo)) ∧ Kept (rs.take j).reverse fo ∧ fo.length ≤ j) ?_ ?_ ⟨[], none, none, rfl, rfl, kept_nil, Nat.le_refl _⟩
  · rintro j z ρ S' nx hj ⟨fo, b2, b3, rfl, rfl, kp, hfl⟩ hn
    rw [List.getElem?_map] at hj
    obtain ⟨r, hrj, rfl⟩ := Option.map_eq_some_iff.mp hj
    have hjl := (List.getElem?_eq_some_iff.mp hrj).1
    have tk : (rs.take (j + 1)).reverse = r :: (rs.take j).reverse := by rw [List.take_add_one, hrj]; simp
    rw [tk] at hn
    refine ⟨hG _ (asL_sub (hSub _) hd), ?_⟩
    walk_at "A.hop"
    refine iter_asL (asL_own put_same) fun G2 hG2 => ?_
    refine aLoop_inv (fun i ρ S2 => ∃ b3, ρ = [some d, some (.own a), some (nD (lesser r (fo.take i))), b3] ∧ S2 = put S a (.lst (List.map nD fo))) ?_ ?_ ⟨b3, rfl, rfl⟩
    · rintro i z ρ S2 nx2 hi ⟨b3, rfl, rfl⟩ hn2
      rw [List.getElem?_map] at hi
      obtain ⟨o, hoi, rfl⟩ := Option.map_eq_some_iff.mp hi
      refine ⟨hG2 _ (asL_own put_same), ?_⟩
      unfold nD
      walk_at "A.hop"
      refine ⟨trivial, hn2 _ _ ⟨some (nD o), ?_, rfl⟩⟩
      have tk2 : fo.take (i + 1) = fo.take i ++ [o] := by rw [List.take_add_one, hoi]; rfl
      rw [tk2, lesser_snoc]
      generalize lesser r (fo.take i) = x
      rw [xor_nat]
      show [_, _, some (D.int (if ((x ^^^ o : Nat) : Int) < (x : Nat) then ((x ^^^ o : Nat) : Int) else (x : Nat))), _] = [_, _, some (D.int ((min x (x ^^^ o) : Nat) : Int)), _]
      have e3 : (if ((x ^^^ o : Nat) : Int) < ((x : Nat) : Int) then ((x ^^^ o : Nat) : Int) else ((x : Nat) : Int)) = ((min x (x ^^^ o) : Nat) : Int) := by
        generalize x ^^^ o = y
        split <;> omega
      rw [e3]
      rfl
    · rintro ρ S2 ⟨b3, rfl, rfl⟩
      rw [List.length_map, List.take_length]
      refine ⟨hG2 _ (asL_own put_same), ?_⟩
      unfold nD
      walk_at "A.hop"
      by_cases h0 : lesser r fo = 0
      · rw [h0, decide_eq_false (show ¬ (0 : Int) < ((0 : Nat) : Int) by omega)]
        walk_at "A.hop"
        exact hn _ _ ⟨fo, _, _, rfl, rfl, kept_none kp h0, by omega⟩
      · rw [decide_eq_true (show (0 : Int) < ((lesser r fo : Nat) : Int) by omega)]
        walk_at "A.hop"
        refine ⟨⟨_, asL_own put_same⟩, a, _, _, rfl, put_same, rfl, by rw [List.length_map]; omega, hn _ _ ⟨fo ++ [lesser r fo], _, _, rfl, ?_, kept_new kp h0, by simp; omega⟩⟩
        rw [put_put, List.map_append]
        rfl
  · rintro ρ S' ⟨fo, b2, b3, rfl, rfl, kp, hfl⟩
    rw [List.length_map, List.take_length] at kp
    refine ⟨hG _ (asL_sub (hSub _) hd), ?_⟩
    walk_at "A.hop"
    refine ⟨_, _, rfl, lenD_asL (asL_own put_same), ret_drop ?_ (sub_del ha)⟩
    rw [List.length_map, kept_len kp]
    exact q
theorem count_cast (l : List Nat) (k : Nat) : (l.map fun (n : Nat) => (n : Int)).count (k : Int) = l.count k := by
  induction l with
  | nil => rfl
  | cons a l ih =>
    rw [List.map_cons, List.count_cons, List.count_cons, ih]
    by_cases h : a = k
    · subst h; simp
    · have : ¬ ((a : Int) = k) := by omega
      simp [h, this]
theorem nD_ints (l : List Nat) : intsOf (List.map nD l) = some (l.map fun (n : Nat) => (n : Int)) := by
  rw [show nD = D.int ∘ fun (n : Nat) => (n : Int) from rfl, ← List.map_map]
  exact intsOf_map _
theorem law_in_lots (K : PySem.W.Frag) : ∀ ds S Q E, sp_in_lots K ds S Q E → a_in_lots K (aEnd Q E) (startA ["_law_tops", "_law_lots", "_law_k", "_law_top"] ds) S := by
  rintro ds S Q E ⟨d, e, ts, ls, rfl, hd, he, q⟩
  unfold a_in_lots
  walk_at "A.hop"
  refine ⟨_, _, rfl, hd, ?_⟩
  refine aLcL_inv (fun j acc S2 => S2 = S ∧ acc = (((List.range ts.length).take j).map fun k => min (ls.count k) (ts.getD k 0)).map fun (n : Nat) => D.int n) ?_ ?_ ⟨rfl, rfl⟩
  · rintro j x acc S2 k hx ⟨rfl, rfl⟩ hk
    obtain ⟨x1, g1, rfl⟩ := enumD_get hx
    have jl : j < ts.length := by
      have := (List.getElem?_eq_some_iff.mp g1).1
      simpa using this
    rw [List.getElem?_map, List.getElem?_eq_getElem jl] at g1
    cases g1
    refine ⟨hd, ?_⟩
    walk_at "A.hop"
    refine ⟨_, rfl, rfl, rfl, ?_⟩
    unfold nD
    walk_at "A.hop"
    refine ⟨⟨_, he⟩, _, _, j, rfl, he, nD_ints ls, ?_⟩
    rw [count_cast]
    walk_at "A.hop"
    refine ⟨trivial, hk _ _ ⟨rfl, ?_⟩⟩
    rw [List.take_add_one, List.getElem?_range jl]
    simp only [Option.toList, List.map_append, List.map_cons, List.map_nil]
    congr 2
    rw [List.getD_eq_getElem?_getD, List.getElem?_eq_getElem jl]
    show D.int _ = D.int _
    congr 1
    show (if ((ls.count j : Nat) : Int) < ((ts[j] : Nat) : Int) then ((ls.count j : Nat) : Int) else ((ts[j] : Nat) : Int)) = ((min (ls.count j) ts[j] : Nat) : Int)
    split <;> omega
  · rintro acc S2 ⟨rfl, rfl⟩
    refine ⟨hd, .inl ⟨_, _, ((List.range ts.length).map fun k => min (ls.count k) (ts.getD k 0)).map fun (n : Nat) => (n : Int), rfl, rfl, ?_, ret ?_⟩⟩
    · rw [enumD_len, List.length_map, List.take_of_length_le (by simp)]
      rw [show (fun (n : Nat) => D.int (n : Int)) = D.int ∘ fun (n : Nat) => (n : Int) from rfl, ← List.map_map]
      exact intsOf_map _
    · rw [cast_sum]
      exact q
def Yd.at_ : Yd → Int → D
  | .ties _ es, i => prD (tieAt es i)
  | .rows rs, i => nD (natAt rs i)
  | .lots _ ls, i => nD (natAt ls i)
  | .seats _ rs, i => iD (rowAt rs i)
theorem Yd.told_at {u : Yd} {i : Int} (h : InR u.len i) : atI u.told i = some (u.at_ i) := by
  cases u with
  | ties n es => exact atI_map (getD_get (x := (0, 0)) h) h.1
  | rows rs => exact atI_map (getD_get (x := 0) h) h.1
  | lots ts ls => exact atI_map (getD_get (x := 0) h) h.1
  | seats n rs => exact atI_map (getD_get (x := []) h) h.1
theorem law_worth (K : PySem.W.Frag) : ∀ ds S Q E, sp_worth K ds S Q E → a_worth K (aEnd Q E) (startA ["_law_spec_here", "_law_heap", "_law_sort", "_law_first", "_law_rows", "_law_some", "_law_k"] ds) S := by
  rintro ds S Q E ⟨u, d, hp, rfl, ok, hd, hr, hz, q⟩
  unfold a_worth
  walk_at "A.hop"
  refine ⟨[.str u.word, u.first, .lst u.told], rfl, rfl, rfl, ?_⟩
  walk_at "A.hop"
  refine iter_asL hd fun G hG => ?_
  refine aLcL_map (fun x => match x with | .int i => u.at_ i | x => x) (hG _ hd) ?_ (.inl ?_)
  · intro d' hd' k hk
    obtain ⟨i, hi, rfl⟩ := List.mem_map.mp hd'
    walk_at "A.hop"
    exact ⟨_, Yd.told_at (hr i hi), hk⟩
  · rw [List.map_map]
    cases u with
    | ties n es =>
      walk_at "A.hop"
      rw [show (Yd.ties n es).word = "ties" from rfl, decide_eq_true (show ("ties" : Str) = "ties" from rfl)]
      walk_at "A.hop"
      refine ⟨n, _, hp.map (tieAt es), rfl, by rw [List.map_map]; rfl, ok.2.1, ties_at ok.2.2.2 hr, ret (ret q)⟩
    | rows rs =>
      walk_at "A.hop"
      rw [show (Yd.rows rs).word = "rows" from rfl, decide_eq_false (show ¬ ("rows" : Str) = "ties" by decide), decide_eq_true (show ("rows" : Str) = "rows" from rfl)]
      walk_at "A.hop"
      refine ⟨_, hp.map (natAt rs), rfl, by rw [List.map_map]; rfl, by rw [List.length_map]; exact hz, ret (ret q)⟩
    | lots ts ls =>
      walk_at "A.hop"
      rw [show (Yd.lots ts ls).word = "lots" from rfl, decide_eq_false (show ¬ ("lots" : Str) = "ties" by decide), decide_eq_false (show ¬ ("lots" : Str) = "rows" by decide), decide_eq_true (show ("lots" : Str) = "lots" from rfl)]
      walk_at "A.hop"
      refine ⟨_, _, ts, hp.map (natAt ls), rfl, rfl, by rw [List.map_map]; rfl, ret (ret q)⟩
    | seats n rs =>
      walk_at "A.hop"
      rw [show (Yd.seats n rs).word = "seats" from rfl, decide_eq_false (show ¬ ("seats" : Str) = "ties" by decide), decide_eq_false (show ¬ ("seats" : Str) = "rows" by decide), decide_eq_false (show ¬ ("seats" : Str) = "lots" by decide)]
      walk_at "A.hop"
      refine ⟨hp.map (rowAt rs), n, by rw [List.map_map]; rfl, ⟨ok.1, by rw [List.length_map]; exact hz, fun r hr' => ?_⟩, ret (ret q)⟩
      obtain ⟨i, hi, rfl⟩ := List.mem_map.mp hr'
      exact ok.2.2 _ (row_mem (hr i hi))
end A

namespace A
open PySem PySem.Spec L2 PyProof.Rows
local macro_rules | `(tactic| walk_at "A.go") => `(tactic| simp only [aSeq, aNext, aSet, aVar, atV_s, onB_b, onI_i, onII_i, onL1_i, onL2_i, it_l, it_t, it_s, it_x, ix_l, ix_t, ix_s, add_i, add_x, eq_i, eq_x, eq_b, is_b, aC, aNil, aCons, aOp, aUn, aTup, aLst, aCB, aNot, aAnd, aOr, aTst, aIfE, aAndV, aOrV, aNotV, aChn, aDrop, aRet, aRetN, aIf, agName, agNil, agCons, agTup, aAsg, aPar, aAug, aFor, aRng1, aRng2, aIter, aLc, aYes,
  aCl, aMt, aMk, aFl, aFst, aNeg, aI2, aI20, aLe, aLt, aGt, aGe, aSub, aMod, aMul, aFdv, aPow, aXor, aShl, aShr, agSub, aoN, aoS, aSl, aRev, aLen, aList, aTupOf, aLRg1, aLRg2, aAbs, aI2N, aMax, aMin, aDm, aAll, aAny, aBM, aApp, aPopAt, aPop, aClear, aRevM, aExt, aRepr, aClD, aLnSt, aIAdd, aBreak, aCont,
  aEnd, startA, List.map_cons, List.map_nil, List.cons_append, List.nil_append, List.length_cons, List.length_nil, List.replicate, List.getElem?_cons_zero, List.getElem?_cons_succ, List.set_cons_zero, List.set_cons_succ, Nat.reduceAdd, Nat.reduceSub, Nat.succ_eq_add_one, Int.reduceAdd, Int.reduceMul,
  reduceIte, Bool.false_eq_true, Bool.not_true, Bool.not_false, ite_true, ite_false])
local macro_rules | `(tactic| walk_at "A.hop") => `(tactic| try simp only [aMtF, aFmt, aJs, aEqO, aNeO, aReprF, aRevT, aIsiT, aInt, aStrI, aEnum, aZip, aMulL, aCount, aAugS, aSetOf, aSrtSet, aSum, aDNew, aDIn, aDIx, aDPut, aLenD, aListD, aBits, aDsp1, aBool, aSorted, wipeA, aSeq, aNext, aSet, aVar, atV_s, onB_b, onI_i, onII_i, onL1_i, onL2_i, it_l, it_t, it_s, it_x, ix_l, ix_t, ix_s, add_i, add_x, eq_i, eq_x, eq_b, is_b, aC, aNil, aCons, aOp, aUn, aTup, aLst, aCB, aNot, aAnd, aOr, aTst, aIfE, aAndV, aOrV, aNotV, aChn, aDrop, aRet, aRetN, aIf, agName, agNil, agCons, agTup, aAsg, aPar, aAug, aFor, aRng1, aRng2, aIter, aLc, aYes,
  aCl, aMt, aMk, aFl, aFst, aNeg, aI2, aI20, aLe, aLt, aGt, aGe, aSub, aMod, aMul, aFdv, aPow, aXor, aShl, aShr, agSub, aoN, aoS, aSl, aRev, aLen, aList, aTupOf, aLRg1, aLRg2, aAbs, aI2N, aMax, aMin, aDm, aAll, aAny, aBM, aApp, aPopAt, aPop, aClear, aRevM, aExt, aRepr, aClD, aLnSt, aIAdd, aBreak, aCont,
  aEnd, startA, List.map_cons, List.map_nil, List.cons_append, List.nil_append, List.length_cons, List.length_nil, List.replicate, List.getElem?_cons_zero, List.getElem?_cons_succ, List.set_cons_zero, List.set_cons_succ, Nat.reduceAdd, Nat.reduceSub, Nat.succ_eq_add_one, Int.reduceAdd, Int.reduceMul,
  reduceIte, Bool.false_eq_true, Bool.not_true, Bool.not_false, ite_true, ite_false])
/-! ### drawn yards -/
theorem map_all {α : Type} {f : α → D} : ∀ {l : List D} {m : List α}, (∀ x ∈ l, x ∈ List.map f m) → ∃ m', l = List.map f m' ∧ ∀ a ∈ m', a ∈ m
  | [], m, _ => ⟨[], rfl, fun _ h => (List.not_mem_nil h).elim⟩
  | x :: l, m, h => by
    obtain ⟨a, ha, e⟩ := List.mem_map.mp (h x List.mem_cons_self)
    obtain ⟨m', e2, h2⟩ := map_all (f := f) (l := l) (m := m) fun y hy => h y (List.mem_cons_of_mem _ hy)
    refine ⟨a :: m', by rw [List.map_cons, e, e2], fun b hb => ?_⟩
    rcases List.mem_cons.mp hb with rfl | hb
    · exact ha
    · exact h2 b hb
theorem law_pairs (K : PySem.W.Frag) : ∀ ds S Q E, sp_pairs K ds S Q E → a_pairs K (aEnd Q E) (startA ["_law_pot_here", "_law_places", "_law_many", "_law_k"] ds) S := by
  rintro ds S Q E ⟨p, n, m, rfl, hp, n1, n12, hm, q⟩
  unfold a_pairs
  walk_at "A.hop"
  refine ⟨by omega, by omega, ?_⟩
  refine aLcL_inv (fun j acc S' => ∃ es, acc = List.map prD es ∧ S' = S ∧ TiesIn n es ∧ es.length = j) ?_ ?_ ⟨[], rfl, rfl, fun _ h => (List.not_mem_nil h).elim, rfl⟩
  · rintro j z acc S' k hz ⟨es, rfl, rfl, hti, hl⟩ hk
    refine ⟨trivial, ?_⟩
    walk_at "A.hop"
    refine ⟨p, n, rfl, hp, by omega, by omega, fun a a0 a1 => ret ⟨p, n, rfl, hp, by omega, by omega, fun b b0 b1 => ret ⟨two_line, hk _ _ ⟨es ++ [(a, b)], by rw [List.map_append]; rfl, rfl, fun e he => ?_, by rw [List.length_append, hl]; rfl⟩⟩⟩⟩
    rcases List.mem_append.mp he with he | he
    · exact hti e he
    · rw [List.mem_singleton.mp he]; exact ⟨⟨a0, a1⟩, b0, b1⟩
  · rintro acc S' ⟨es, rfl, rfl, hti, hl⟩
    rw [rngD_length] at hl
    exact ⟨trivial, .inl (ret (q es hti hl))⟩
theorem law_with_alike (K : PySem.W.Frag) : ∀ ds S Q E, sp_with_alike K ds S Q E → a_with_alike K (aEnd Q E) (startA ["_law_pot_here", "_law_rows", "_law_found", "_law_k"] ds) S := by
  rintro ds S Q E ⟨p, l, rfl, hp, hl, q⟩
  unfold a_with_alike
  walk_at "A.hop"
  refine ⟨_, l, rfl, rfl, .inr fun a ha => ?_⟩
  have pa : p ≠ a := by rintro rfl; rw [ha] at hp; cases hp
  have hp' : ∀ c, put S a c p = some .pot := fun c => by rw [put_ne pa]; exact hp
  walk_at "A.hop"
  refine ⟨p, 3, rfl, hp' _, by decide, by decide, fun t t0 t1 => ret ?_⟩
  walk_at "A.hop"
  split
  · refine ⟨_, l.length, rfl, lenD_asL (asL_own put_same), by omega, by omega, by omega, by omega, ?_⟩
    refine aLoop_inv (fun j ρ S' => ∃ L b3, ρ = [some (.own p), some (.lst l), some (.own a), b3] ∧ S' = put S a (.lst L) ∧ L.length = l.length ∧ ∀ x ∈ L, x ∈ l) ?_ ?_ ⟨l, none, rfl, rfl, rfl, fun _ h => h⟩
    · rintro j z ρ S' nx hz ⟨L, b3, rfl, rfl, hL, hmem⟩ hn
      have lt := (List.getElem?_eq_some_iff.mp hz).1
      rw [rngD_length] at lt
      have ez : z = .int (1 + (j : Nat)) := by
        unfold rngD at hz
        rw [List.getElem?_map, List.getElem?_range lt] at hz
        exact (Option.some.inj hz).symm
      subst ez
      refine ⟨trivial, ?_⟩
      walk_at "A.hop"
      refine ⟨p, 3, rfl, hp' _, by decide, by decide, fun t t0 t1 => ret ?_⟩
      walk_at "A.hop"
      split
      · refine ⟨p, 1 + (j : Nat), rfl, hp' _, by omega, by omega, fun i i0 i1 => ret ?_⟩
        have hi : i.toNat < L.length := by omega
        refine ix_asL (asL_own put_same) (atI_ok (l := L) i0 (by omega)) ?_
        refine put_own (j := 1 + j) put_same ?_ (hn _ _ ⟨L.set (1 + j) (L[i.toNat]), some (.int (1 + (j : Nat))), rfl, by rw [put_put], by rw [List.length_set]; exact hL, fun x hx => ?_⟩)
        · unfold ixN
          rw [if_pos (by omega), if_pos (by omega)]
          congr 1
        · rcases List.mem_or_eq_of_mem_set hx with hx | rfl
          · exact hmem x hx
          · exact hmem _ (List.getElem_mem _)
      · exact hn _ _ ⟨L, some (.int (1 + (j : Nat))), rfl, rfl, hL, hmem⟩
    · rintro ρ S' ⟨L, b3, rfl, rfl, hL, hmem⟩
      refine ⟨trivial, ?_⟩
      walk_at "A.hop"
      exact ret_new ha (q L hL hmem)
  · exact ret_new ha (q l rfl fun _ h => h)
theorem law_seat_rows (K : PySem.W.Frag) : ∀ ds S Q E, sp_seat_rows K ds S Q E → a_seat_rows K (aEnd Q E) (startA ["_law_pot_here", "_law_seats", "_law_many", "_law_found", "_law_k", "_law_row", "_law_seat"] ds) S := by
  rintro ds S Q E ⟨p, n, m, rfl, hp, n12, hm, q⟩
  unfold a_seat_rows
  walk_at "A.hop"
  have hs : sizeLine = 16777216 := sizeLine_eq
  refine ⟨Nat.zero_le _, .inr fun a ha => ⟨by omega, by omega, ?_⟩⟩
  have pa : p ≠ a := by rintro rfl; rw [ha] at hp; cases hp
  have hp' : ∀ c, put S a c p = some .pot := fun c => by rw [put_ne pa]; exact hp
  refine aLoop_inv (fun j ρ S' => ∃ rs b4 b5, ρ = [some (.own p), some (.int n), some (.int m), some (.own a), b4, b5, none] ∧ S' = put S a (.lst (List.map iD rs)) ∧ (∀ r ∈ rs, Heap_ n r) ∧ rs.length = j) ?_ ?_ ⟨[], none, none, rfl, rfl, fun _ h => (List.not_mem_nil h).elim, rfl⟩
  · rintro j z ρ S' nx hz ⟨rs, b4, b5, rfl, rfl, hok, hl⟩ hn
    have lt := (List.getElem?_eq_some_iff.mp hz).1
    rw [rngD_length] at lt
    refine ⟨trivial, ?_⟩
    walk_at "A.hop"
    refine ⟨by omega, by omega, ?_⟩
    have e0 : rngD 0 ((n : Int)).toNat = (rng n).map .int := by rw [rngD0]; rfl
    rw [e0]
    refine aLcL_inv (fun i acc S2 => ∃ r : List Int, acc = List.map D.int r ∧ S2 = put S a (.lst (List.map iD rs)) ∧ r.Nodup ∧ ∀ x ∈ r, x ∈ (rng n).take i) ?_ ?_ ⟨[], rfl, rfl, List.nodup_nil, fun _ h => (List.not_mem_nil h).elim⟩
    · rintro i w acc S2 k hw ⟨r, rfl, rfl, hnd, hsub⟩ hk
      rw [List.getElem?_map] at hw
      obtain ⟨s, hsi, rfl⟩ := Option.map_eq_some_iff.mp hw
      have tk : (rng n).take (i + 1) = (rng n).take i ++ [s] := by rw [List.take_add_one, hsi]; rfl
      rw [tk] at hk
      refine ⟨trivial, ?_⟩
      walk_at "A.hop"
      refine ⟨p, 3, rfl, hp' _, by decide, by decide, fun t t0 t1 => ret ?_⟩
      walk_at "A.hop"
      split
      · refine hk _ _ ⟨r ++ [s], by rw [List.map_append]; rfl, rfl, ?_, fun x hx => ?_⟩
        · rw [List.nodup_append]
          refine ⟨hnd, by simp, fun x hx y hy => ?_⟩
          rw [List.mem_singleton.mp hy]
          rintro rfl
          have hnd2 := rng_nodup (n := n)
          rw [← List.take_append_drop i (rng n), List.nodup_append] at hnd2
          obtain ⟨lt2, et⟩ := List.getElem?_eq_some_iff.mp hsi
          exact hnd2.2.2 x (hsub x hx) x (by rw [List.drop_eq_getElem_cons lt2, et]; exact List.mem_cons_self) rfl
        · rcases List.mem_append.mp hx with hx | hx
          · exact List.mem_append_left _ (hsub x hx)
          · exact List.mem_append_right _ hx
      · exact hk _ _ ⟨r, rfl, rfl, hnd, fun x hx => List.mem_append_left _ (hsub x hx)⟩
    · rintro acc S2 ⟨r, rfl, rfl, hnd, hsub⟩
      have hr : Heap_ n r := ⟨hnd, fun x hx => mem_rngI.mp (List.mem_of_mem_take (hsub x hx))⟩
      refine ⟨trivial, .inl ?_⟩
      walk_at "A.hop"
      have fin : ∀ r' : List Int, Heap_ n r' → nx [some (.own p), some (.int n), some (.int m), some (.own a), some z, some (.lst (List.map D.int r)), none] (put (put S a (.lst (List.map iD rs))) a (.lst (List.map iD rs ++ [.lst (List.map D.int r')]))) := fun r' h' => by
        rw [put_put]
        refine hn _ _ ⟨rs ++ [r'], some z, some (.lst (List.map D.int r)), rfl, by rw [List.map_append]; rfl, fun x hx => ?_, by rw [List.length_append, hl]; rfl⟩
        rcases List.mem_append.mp hx with hx | hx
        · exact hok x hx
        · rw [List.mem_singleton.mp hx]; exact h'
      refine ⟨⟨_, asL_own put_same⟩, p, 4, rfl, hp' _, by decide, by decide, fun t t0 t1 => ret ?_⟩
      walk_at "A.hop"
      split
      · refine ⟨_, rfl, .inl ⟨a, _, _, rfl, put_same, rfl, by rw [List.length_map]; omega, ?_⟩⟩
        rw [← List.map_reverse]
        exact fin r.reverse ⟨(List.reverse_perm r).nodup_iff.mpr hnd, fun x hx => hr.2 x (List.mem_reverse.mp hx)⟩
      · exact ⟨a, _, _, rfl, put_same, rfl, by rw [List.length_map]; omega, fin r hr⟩
  · rintro ρ S' ⟨rs, b4, b5, rfl, rfl, hok, hl⟩
    rw [rngD_length] at hl
    refine ⟨trivial, ?_⟩
    walk_at "A.hop"
    exact ret_new ha (q rs hl hok)
end A

namespace A
open PySem PySem.Spec L2 PyProof.Rows
local macro_rules | `(tactic| walk_at "A.go") => `(tactic| simp only [aSeq, aNext, aSet, aVar, atV_s, onB_b, onI_i, onII_i, onL1_i, onL2_i, it_l, it_t, it_s, it_x, ix_l, ix_t, ix_s, add_i, add_x, eq_i, eq_x, eq_b, is_b, aC, aNil, aCons, aOp, aUn, aTup, aLst, aCB, aNot, aAnd, aOr, aTst, aIfE, aAndV, aOrV, aNotV, aChn, aDrop, aRet, aRetN, aIf, agName, agNil, agCons, agTup, aAsg, aPar, aAug, aFor, aRng1, aRng2, aIter, aLc, aYes,
  aCl, aMt, aMk, aFl, aFst, aNeg, aI2, aI20, aLe, aLt, aGt, aGe, aSub, aMod, aMul, aFdv, aPow, aXor, aShl, aShr, agSub, aoN, aoS, aSl, aRev, aLen, aList, aTupOf, aLRg1, aLRg2, aAbs, aI2N, aMax, aMin, aDm, aAll, aAny, aBM, aApp, aPopAt, aPop, aClear, aRevM, aExt, aRepr, aClD, aLnSt, aIAdd, aBreak, aCont,
  aEnd, startA, List.map_cons, List.map_nil, List.cons_append, List.nil_append, List.length_cons, List.length_nil, List.replicate, List.getElem?_cons_zero, List.getElem?_cons_succ, List.set_cons_zero, List.set_cons_succ, Nat.reduceAdd, Nat.reduceSub, Nat.succ_eq_add_one, Int.reduceAdd, Int.reduceMul,
  reduceIte, Bool.false_eq_true, Bool.not_true, Bool.not_false, ite_true, ite_false])
local macro_rules | `(tactic| walk_at "A.hop") => `(tactic| try simp only [aMtF, aFmt, aJs, aEqO, aNeO, aReprF, aRevT, aIsiT, aInt, aStrI, aEnum, aZip, aMulL, aCount, aAugS, aSetOf, aSrtSet, aSum, aDNew, aDIn, aDIx, aDPut, aLenD, aListD, aBits, aDsp1, aBool, aSorted, wipeA, aSeq, aNext, aSet, aVar, atV_s, onB_b, onI_i, onII_i, onL1_i, onL2_i, it_l, it_t, it_s, it_x, ix_l, ix_t, ix_s, add_i, add_x, eq_i, eq_x, eq_b, is_b, aC, aNil, aCons, aOp, aUn, aTup, aLst, aCB, aNot, aAnd, aOr, aTst, aIfE, aAndV, aOrV, aNotV, aChn, aDrop, aRet, aRetN, aIf, agName, agNil, agCons, agTup, aAsg, aPar, aAug, aFor, aRng1, aRng2, aIter, aLc, aYes,
  aCl, aMt, aMk, aFl, aFst, aNeg, aI2, aI20, aLe, aLt, aGt, aGe, aSub, aMod, aMul, aFdv, aPow, aXor, aShl, aShr, agSub, aoN, aoS, aSl, aRev, aLen, aList, aTupOf, aLRg1, aLRg2, aAbs, aI2N, aMax, aMin, aDm, aAll, aAny, aBM, aApp, aPopAt, aPop, aClear, aRevM, aExt, aRepr, aClD, aLnSt, aIAdd, aBreak, aCont,
  aEnd, startA, List.map_cons, List.map_nil, List.cons_append, List.nil_append, List.length_cons, List.length_nil, List.replicate, List.getElem?_cons_zero, List.getElem?_cons_succ, List.set_cons_zero, List.set_cons_succ, Nat.reduceAdd, Nat.reduceSub, Nat.succ_eq_add_one, Int.reduceAdd, Int.reduceMul,
  reduceIte, Bool.false_eq_true, Bool.not_true, Bool.not_false, ite_true, ite_false])
/-- [take(pot, w) for k in range(m)] -/
theorem draws_ok {S : Sto} {ρ : En} {Q : KD} {e : AE} {i m : Nat} (B : D → Prop) (one : ∀ (d : D) (k : D → Sto → Prop), (∀ x, B x → k x S) → e (ρ.set i (some d)) S k noX)
    (q : ∀ l : List D, l.length = m → (∀ x ∈ l, B x) → NewL l S Q) : aLcL (agName i) aYes e (fun _ => True) ρ Q (rngD 0 m) [] S := by
  refine aLcL_inv (fun j acc S' => S' = S ∧ acc.length = j ∧ ∀ x ∈ acc, B x) ?_ ?_ ⟨rfl, rfl, fun _ h => (List.not_mem_nil h).elim⟩
  · rintro j d acc S' k hd ⟨rfl, hl, hb⟩ hk
    refine ⟨trivial, ?_⟩
    change e (ρ.set i (some d)) S' (fun v S4 => k (acc ++ [v]) S4) noX
    refine one d _ fun x hx => hk _ _ ⟨rfl, by rw [List.length_append, hl]; rfl, fun y hy => ?_⟩
    rcases List.mem_append.mp hy with hy | hy
    · exact hb y hy
    · rw [List.mem_singleton.mp hy]; exact hx
  · rintro acc S' ⟨rfl, hl, hb⟩
    rw [rngD_length] at hl
    exact ⟨trivial, q acc hl hb⟩
theorem nats_of {P : Nat → Prop} : ∀ {l : List D}, (∀ x ∈ l, ∃ n : Nat, x = nD n ∧ P n) → ∃ ns : List Nat, l = List.map nD ns ∧ ∀ n ∈ ns, P n
  | [], _ => ⟨[], rfl, fun _ h => (List.not_mem_nil h).elim⟩
  | x :: l, h => by
    obtain ⟨n, rfl, hn⟩ := h x List.mem_cons_self
    obtain ⟨ns, rfl, hs⟩ := nats_of fun y hy => h y (List.mem_cons_of_mem _ hy)
    refine ⟨n :: ns, rfl, fun m hm => ?_⟩
    rcases List.mem_cons.mp hm with rfl | hm
    · exact hn
    · exact hs m hm
theorem law_spec (K : PySem.W.Frag) : ∀ ds S Q E, sp_spec K ds S Q E → a_spec K (aEnd Q E) (startA ["_law_pot_here", "_law_most", "_law_sort", "_law_many", "_law_places", "_law_wide", "_law_k", "_law_tops", "_law_seats"] ds) S := by
  rintro ds S Q E ⟨p, m, rfl, hp, hm, q⟩
  unfold a_spec
  walk_at "A.hop"
  have hs : sizeLine = 16777216 := sizeLine_eq
  refine ⟨by omega, .inl ⟨p, 4, rfl, hp, by decide, by decide, fun s s0 s1 => ret ?_⟩⟩
  walk_at "A.hop"
  have main : ∀ n : Nat, n ≤ m →
      (∀ (es : List Tie) (k : Nat), 1 ≤ k → k ≤ 12 → TiesIn k es → es.length = n → Q (specD (.ties k es)) S) ∧ (∀ rs : List Nat, (∀ r ∈ rs, r < 2 ^ 12) → rs.length = n → Q (specD (.rows rs)) S) ∧
      (∀ ts ls : List Nat, ts.length ≤ 8 → (∀ t ∈ ts, t ≤ 24) → (∀ l ∈ ls, l < ts.length) → ls.length = n → Q (specD (.lots ts ls)) S) ∧ ∀ (k : Nat) (rs : List (List Int)), k ≤ 12 → (∀ r ∈ rs, Heap_ k r) → rs.length = n → Q (specD (.seats k rs)) S := by
    intro n hn
    refine ⟨fun es k k1 k2 ht hl => q (.ties k es) ⟨k1, k2, by omega, ht⟩ (by show es.length ≤ m; omega), fun rs hr hl => q (.rows rs) ⟨by omega, hr⟩ (by show rs.length ≤ m; omega),
      fun ts ls h8 ht hls hl => q (.lots ts ls) ⟨h8, ht, by omega, hls⟩ (by show ls.length ≤ m; omega), fun k rs k12 hr hl => q (.seats k rs) ⟨k12, by omega, hr⟩ (by show rs.length ≤ m; omega)⟩
  obtain ⟨w, ew, hw⟩ : ∃ w : Str, atI [D.str "ties", D.str "rows", D.str "lots", D.str "seats"] s = some (.str w) ∧ (w = "ties" ∨ w = "rows" ∨ w = "lots" ∨ w = "seats") := by
    rcases (show s = 0 ∨ s = 1 ∨ s = 2 ∨ s = 3 by omega) with rfl | rfl | rfl | rfl
    · exact ⟨_, rfl, .inl rfl⟩
    · exact ⟨_, rfl, .inr (.inl rfl)⟩
    · exact ⟨_, rfl, .inr (.inr (.inl rfl))⟩
    · exact ⟨_, rfl, .inr (.inr (.inr rfl))⟩
  refine ⟨_, ew, ?_⟩
  walk_at "A.hop"
  refine ⟨p, m + 1, rfl, hp, by omega, by omega, fun t t0 t1 => ret ⟨two_line, .inl ⟨p, 2, rfl, hp, by decide, by decide, fun c c0 c1 => ret ?_⟩⟩⟩
  walk_at "A.hop"
  obtain ⟨n, en, hn⟩ : ∃ n : Nat, atI [D.int m, D.int t] c = some (.int n) ∧ n ≤ m := by
    rcases (show c = 0 ∨ c = 1 by omega) with rfl | rfl
    · exact ⟨m, rfl, Nat.le_refl _⟩
    · refine ⟨t.toNat, ?_, by omega⟩
      rw [show ((t.toNat : Nat) : Int) = t by omega]
      rfl
  refine ⟨_, en, ?_⟩
  obtain ⟨qt, qr, ql, qs⟩ := main n hn
  rcases hw with rfl | rfl | rfl | rfl
  · rw [decide_eq_true (show ("ties" : Str) = "ties" from rfl)]
    walk_at "A.hop"
    refine ⟨two_line, .inl ⟨p, 2, rfl, hp, by decide, by decide, fun c c0 c1 => ret ?_⟩⟩
    walk_at "A.hop"
    obtain ⟨g, eg, g0, g1⟩ : ∃ g : Int, atI [D.int 12, D.int 4] c = some (.int g) ∧ 0 < g ∧ g ≤ 12 := by
      rcases (show c = 0 ∨ c = 1 by omega) with rfl | rfl
      · exact ⟨12, rfl, by decide, by decide⟩
      · exact ⟨4, rfl, by decide, by decide⟩
    refine ⟨_, eg, p, g, rfl, hp, g0, by omega, fun k k0 k1 => ret ?_⟩
    walk_at "A.hop"
    rw [show (1 + k : Int) = ((1 + k.toNat : Nat) : Int) by omega]
    refine ⟨p, 1 + k.toNat, n, rfl, hp, by omega, by omega, by omega, fun es hti hl => ret ⟨p, List.map prD es, rfl, hp, by rw [List.length_map]; omega, fun l' h1 h2 => ret ⟨by omega, ret ?_⟩⟩⟩
    obtain ⟨es', rfl, h3⟩ := map_all h2
    rw [List.length_map, List.length_map] at h1
    exact qt es' _ (by omega) (by omega) (fun e he => hti e (h3 e he)) (by omega)
  · rw [decide_eq_false (show ¬ ("rows" : Str) = "ties" by decide), decide_eq_true (show ("rows" : Str) = "rows" from rfl)]
    walk_at "A.hop"
    refine ⟨by omega, .inl ⟨p, 3, rfl, hp, by decide, by decide, fun c c0 c1 => ret ?_⟩⟩
    walk_at "A.hop"
    obtain ⟨g, eg, g0, g1⟩ : ∃ g : Int, atI [D.int 4096, D.int 16, D.int 4] c = some (.int g) ∧ 0 < g ∧ g ≤ 4096 := by
      rcases (show c = 0 ∨ c = 1 ∨ c = 2 by omega) with rfl | rfl | rfl
      · exact ⟨4096, rfl, by decide, by decide⟩
      · exact ⟨16, rfl, by decide, by decide⟩
      · exact ⟨4, rfl, by decide, by decide⟩
    refine ⟨_, eg, ?_⟩
    walk_at "A.hop"
    refine ⟨by omega, by omega, draws_ok (fun x => ∃ r : Nat, x = nD r ∧ r < 2 ^ 12) (fun d k hk => ?_) fun l hl hb => .inl ?_⟩
    · walk_at "A.hop"
      refine ⟨p, g, rfl, hp, g0, by omega, fun v v0 v1 => ret (hk _ ⟨v.toNat, ?_, by omega⟩)⟩
      unfold nD
      rw [show ((v.toNat : Nat) : Int) = v by omega]
    · obtain ⟨rs, rfl, hrs⟩ := nats_of hb
      refine ⟨p, List.map nD rs, rfl, hp, by rw [hl]; omega, fun l' h1 h2 => ret ⟨by omega, ret ?_⟩⟩
      obtain ⟨rs', rfl, h3⟩ := map_all h2
      rw [List.length_map] at h1
      exact qr rs' (fun r hr => hrs r (h3 r hr)) (by rw [h1, hl]; omega)
  · rw [decide_eq_false (show ¬ ("lots" : Str) = "ties" by decide), decide_eq_false (show ¬ ("lots" : Str) = "rows" by decide), decide_eq_true (show ("lots" : Str) = "lots" from rfl)]
    walk_at "A.hop"
    refine ⟨p, 8, rfl, hp, by decide, by decide, fun k k0 k1 => ret ?_⟩
    walk_at "A.hop"
    refine ⟨by omega, by omega, draws_ok (fun x => ∃ r : Nat, x = nD r ∧ r ≤ 24) (fun d k' hk => ?_) fun l hl hb => .inl ?_⟩
    · walk_at "A.hop"
      refine ⟨p, 25, rfl, hp, by decide, by decide, fun v v0 v1 => ret ⟨by omega, .inl ⟨p, 4, rfl, hp, by decide, by decide, fun c c0 c1 => ret ?_⟩⟩⟩
      walk_at "A.hop"
      rcases (show c = 0 ∨ c = 1 ∨ c = 2 ∨ c = 3 by omega) with rfl | rfl | rfl | rfl
      · exact ⟨_, rfl, hk _ ⟨0, rfl, by decide⟩⟩
      · exact ⟨_, rfl, hk _ ⟨1, rfl, by decide⟩⟩
      · exact ⟨_, rfl, hk _ ⟨2, rfl, by decide⟩⟩
      · refine ⟨_, rfl, hk _ ⟨v.toNat, ?_, by omega⟩⟩
        unfold nD
        rw [show ((v.toNat : Nat) : Int) = v by omega]
    · obtain ⟨ts, rfl, hts⟩ := nats_of hb
      rw [List.length_map] at hl
      walk_at "A.hop"
      refine ⟨by omega, by omega, draws_ok (fun x => ∃ r : Nat, x = nD r ∧ r < ts.length) (fun d k' hk => ?_) fun l hl2 hb2 => .inl ?_⟩
      · walk_at "A.hop"
        refine ⟨.lst (List.map nD ts), ts.length, rfl, by show some (List.map nD ts).length = _; rw [List.length_map], p, ts.length, rfl, hp, by omega, by omega, fun v v0 v1 => ret (hk _ ⟨v.toNat, ?_, by omega⟩)⟩
        unfold nD
        rw [show ((v.toNat : Nat) : Int) = v by omega]
      · obtain ⟨ls, rfl, hls⟩ := nats_of hb2
        refine ⟨p, List.map nD ls, rfl, hp, by rw [hl2]; omega, fun l' h1 h2 => ret ⟨by omega, ret ?_⟩⟩
        obtain ⟨ls', rfl, h3⟩ := map_all h2
        rw [List.length_map] at h1
        exact ql ts ls' (by omega) hts (fun r hr => hls r (h3 r hr)) (by rw [h1, hl2]; omega)
  · rw [decide_eq_false (show ¬ ("seats" : Str) = "ties" by decide), decide_eq_false (show ¬ ("seats" : Str) = "rows" by decide), decide_eq_false (show ¬ ("seats" : Str) = "lots" by decide)]
    walk_at "A.hop"
    refine ⟨two_line, .inl ⟨p, 2, rfl, hp, by decide, by decide, fun c c0 c1 => ret ?_⟩⟩
    walk_at "A.hop"
    obtain ⟨g, eg, g0, g1⟩ : ∃ g : Int, atI [D.int 13, D.int 5] c = some (.int g) ∧ 0 < g ∧ g ≤ 13 := by
      rcases (show c = 0 ∨ c = 1 by omega) with rfl | rfl
      · exact ⟨13, rfl, by decide, by decide⟩
      · exact ⟨5, rfl, by decide, by decide⟩
    refine ⟨_, eg, p, g, rfl, hp, g0, by omega, fun k k0 k1 => ret ?_⟩
    have ek : k = ((k.toNat : Nat) : Int) := by omega
    rw [ek]
    refine ⟨p, k.toNat, n, rfl, hp, by omega, by omega, fun rs hl hok => ret ⟨p, List.map iD rs, rfl, hp, by rw [List.length_map]; omega, fun l' h1 h2 => ret ⟨by omega, ret ?_⟩⟩⟩
    obtain ⟨rs', rfl, h3⟩ := map_all h2
    rw [List.length_map, List.length_map] at h1
    exact qs _ rs' (by omega) (fun r hr => hok r (h3 r hr)) (by omega)
theorem law_made (K : PySem.W.Frag) : ∀ ds S Q E, sp_made K ds S Q E → a_made K (aEnd Q E) (startA ["_law_spec_here", "_law_sort", "_law_first", "_law_rows", "_law_row"] ds) S := by
  rintro ds S Q E ⟨u, rfl, ok, k4, q⟩
  unfold a_made
  walk_at "A.hop"
  have hso : ∀ s, s ∈ sorts K := fun s => by rw [k4.1]; exact all_so s
  refine ⟨[.str u.word, u.first, .lst u.told], rfl, rfl, rfl, ?_⟩
  walk_at "A.hop"
  cases u with
  | ties n es =>
    rw [show (Yd.ties n es).word = "ties" from rfl, decide_eq_true (show ("ties" : Str) = "ties" from rfl)]
    walk_at "A.hop"
    refine ⟨_, _, rfl, rfl, .inl fun y hy => ⟨y, n, _, es, rfl, put_same, rfl, (by nofun), ok, hso _, ret ⟨rfl, ret ?_⟩⟩⟩
    rw [put_put]
    exact ret (q y hy)
  | rows rs =>
    rw [show (Yd.rows rs).word = "rows" from rfl, decide_eq_false (show ¬ ("rows" : Str) = "ties" by decide), decide_eq_true (show ("rows" : Str) = "rows" from rfl)]
    walk_at "A.hop"
    refine ⟨_, _, rfl, rfl, .inl fun y hy => ⟨y, _, rs, rfl, put_same, rfl, (by nofun), ok, hso _, ret ⟨rfl, ret ?_⟩⟩⟩
    rw [put_put]
    exact ret (q y hy)
  | lots ts ls =>
    rw [show (Yd.lots ts ls).word = "lots" from rfl, decide_eq_false (show ¬ ("lots" : Str) = "ties" by decide), decide_eq_false (show ¬ ("lots" : Str) = "rows" by decide), decide_eq_true (show ("lots" : Str) = "lots" from rfl)]
    walk_at "A.hop"
    refine ⟨_, _, rfl, rfl, .inl ⟨_, _, rfl, rfl, .inl fun y hy => ⟨y, _, _, ts, ls, rfl, put_same, rfl, rfl, (by nofun), (by nofun), ok, hso _, ret ⟨rfl, ret ?_⟩⟩⟩⟩
    rw [put_put]
    exact ret (q y hy)
  | seats n rs =>
    rw [show (Yd.seats n rs).word = "seats" from rfl, decide_eq_false (show ¬ ("seats" : Str) = "ties" by decide), decide_eq_false (show ¬ ("seats" : Str) = "rows" by decide), decide_eq_false (show ¬ ("seats" : Str) = "lots" by decide)]
    walk_at "A.hop"
    unfold Yd.told
    refine aLcL_map (fun d => d) trivial ?_ (.inl ?_)
    · intro d' hd' k hk
      obtain ⟨r, hr, rfl⟩ := List.mem_map.mp hd'
      walk_at "A.hop"
      exact ⟨iD r, _, rfl, rfl, .inl hk⟩
    · rw [List.map_id']
      refine fun y hy => ⟨y, n, _, rs, rfl, put_same, rfl, (by nofun), ok, hso _, ret ⟨rfl, ret ?_⟩⟩
      rw [put_put]
      exact ret (q y hy)
end A

namespace A
open PySem PySem.Spec L2 PyProof.Rows
local macro_rules | `(tactic| walk_at "A.go") => `(tactic| simp only [aSeq, aNext, aSet, aVar, atV_s, onB_b, onI_i, onII_i, onL1_i, onL2_i, it_l, it_t, it_s, it_x, ix_l, ix_t, ix_s, add_i, add_x, eq_i, eq_x, eq_b, is_b, aC, aNil, aCons, aOp, aUn, aTup, aLst, aCB, aNot, aAnd, aOr, aTst, aIfE, aAndV, aOrV, aNotV, aChn, aDrop, aRet, aRetN, aIf, agName, agNil, agCons, agTup, aAsg, aPar, aAug, aFor, aRng1, aRng2, aIter, aLc, aYes,
  aCl, aMt, aMk, aFl, aFst, aNeg, aI2, aI20, aLe, aLt, aGt, aGe, aSub, aMod, aMul, aFdv, aPow, aXor, aShl, aShr, agSub, aoN, aoS, aSl, aRev, aLen, aList, aTupOf, aLRg1, aLRg2, aAbs, aI2N, aMax, aMin, aDm, aAll, aAny, aBM, aApp, aPopAt, aPop, aClear, aRevM, aExt, aRepr, aClD, aLnSt, aIAdd, aBreak, aCont,
  aEnd, startA, List.map_cons, List.map_nil, List.cons_append, List.nil_append, List.length_cons, List.length_nil, List.replicate, List.getElem?_cons_zero, List.getElem?_cons_succ, List.set_cons_zero, List.set_cons_succ, Nat.reduceAdd, Nat.reduceSub, Nat.succ_eq_add_one, Int.reduceAdd, Int.reduceMul,
  reduceIte, Bool.false_eq_true, Bool.not_true, Bool.not_false, ite_true, ite_false])
local macro_rules | `(tactic| walk_at "A.hop") => `(tactic| try simp only [aMtF, aFmt, aJs, aEqO, aNeO, aReprF, aRevT, aIsiT, aInt, aStrI, aEnum, aZip, aMulL, aCount, aAugS, aSetOf, aSrtSet, aSum, aDNew, aDIn, aDIx, aDPut, aLenD, aListD, aBits, aDsp1, aBool, aSorted, wipeA, aSeq, aNext, aSet, aVar, atV_s, onB_b, onI_i, onII_i, onL1_i, onL2_i, it_l, it_t, it_s, it_x, ix_l, ix_t, ix_s, add_i, add_x, eq_i, eq_x, eq_b, is_b, aC, aNil, aCons, aOp, aUn, aTup, aLst, aCB, aNot, aAnd, aOr, aTst, aIfE, aAndV, aOrV, aNotV, aChn, aDrop, aRet, aRetN, aIf, agName, agNil, agCons, agTup, aAsg, aPar, aAug, aFor, aRng1, aRng2, aIter, aLc, aYes,
  aCl, aMt, aMk, aFl, aFst, aNeg, aI2, aI20, aLe, aLt, aGt, aGe, aSub, aMod, aMul, aFdv, aPow, aXor, aShl, aShr, agSub, aoN, aoS, aSl, aRev, aLen, aList, aTupOf, aLRg1, aLRg2, aAbs, aI2N, aMax, aMin, aDm, aAll, aAny, aBM, aApp, aPopAt, aPop, aClear, aRevM, aExt, aRepr, aClD, aLnSt, aIAdd, aBreak, aCont,
  aEnd, startA, List.map_cons, List.map_nil, List.cons_append, List.nil_append, List.length_cons, List.length_nil, List.replicate, List.getElem?_cons_zero, List.getElem?_cons_succ, List.set_cons_zero, List.set_cons_succ, Nat.reduceAdd, Nat.reduceSub, Nat.succ_eq_add_one, Int.reduceAdd, Int.reduceMul,
  reduceIte, Bool.false_eq_true, Bool.not_true, Bool.not_false, ite_true, ite_false])
def prP (e : Tie) : PyData := .tuple [.int e.1, .int e.2]
def nP (n : Nat) : PyData := .int n
def iP (l : List Int) : PyData := .list (l.map .int)
def Yd.made : Yd → D
  | .ties n es => .lst [.int n, .lst (es.map prD)]
  | .rows rs => .lst [.lst (rs.map nD)]
  | .lots ts ls => .lst [.lst (ts.map nD), .lst (ls.map nD)]
  | .seats n rs => .lst [.int n, .lst (rs.map iD)]
def Yd.shown : Yd → Str
  | .ties n es => (((("Ties(" : Str) ++ (Str.ofString (toString (n : Int)))) ++ (", " : Str)) ++ (PyData.list (es.map prP)).shown) ++ (")" : Str)
  | .rows rs => (("Rows(" : Str) ++ (PyData.list (rs.map nP)).shown) ++ (")" : Str)
  | .lots ts ls => (((("Lots(" : Str) ++ (PyData.list (ts.map nP)).shown) ++ (", " : Str)) ++ (PyData.list (ls.map nP)).shown) ++ (")" : Str)
  | .seats n rs => (((("Seats(" : Str) ++ (Str.ofString (toString (n : Int)))) ++ (", " : Str)) ++ (PyData.list (rs.map iP)).shown) ++ (")" : Str)
end A

/-! ## worths as ranks -/
namespace A
local macro_rules | `(tactic| walk_at "A.go") => `(tactic| simp only [aSeq, aNext, aSet, aVar, atV_s, onB_b, onI_i, onII_i, onL1_i, onL2_i, it_l, it_t, it_s, it_x, ix_l, ix_t, ix_s, add_i, add_x, eq_i, eq_x, eq_b, is_b, aC, aNil, aCons, aOp, aUn, aTup, aLst, aCB, aNot, aAnd, aOr, aTst, aIfE, aAndV, aOrV, aNotV, aChn, aDrop, aRet, aRetN, aIf, agName, agNil, agCons, agTup, aAsg, aPar, aAug, aFor, aRng1, aRng2, aIter, aLc, aYes,
  aCl, aMt, aMk, aFl, aFst, aNeg, aI2, aI20, aLe, aLt, aGt, aGe, aSub, aMod, aMul, aFdv, aPow, aXor, aShl, aShr, agSub, aoN, aoS, aSl, aRev, aLen, aList, aTupOf, aLRg1, aLRg2, aAbs, aI2N, aMax, aMin, aDm, aAll, aAny, aBM, aApp, aPopAt, aPop, aClear, aRevM, aExt, aRepr, aClD, aLnSt, aIAdd, aBreak, aCont,
  aEnd, startA, List.map_cons, List.map_nil, List.cons_append, List.nil_append, List.length_cons, List.length_nil, List.replicate, List.getElem?_cons_zero, List.getElem?_cons_succ, List.set_cons_zero, List.set_cons_succ, Nat.reduceAdd, Nat.reduceSub, Nat.succ_eq_add_one, Int.reduceAdd, Int.reduceMul,
  reduceIte, Bool.false_eq_true, Bool.not_true, Bool.not_false, ite_true, ite_false])
local macro_rules | `(tactic| walk_at "A.hop") => `(tactic| try simp only [aMtF, aFmt, aJs, aEqO, aNeO, aReprF, aRevT, aIsiT, aInt, aStrI, aEnum, aZip, aMulL, aCount, aAugS, aSetOf, aSrtSet, aSum, aDNew, aDIn, aDIx, aDPut, aLenD, aListD, aBits, aDsp1, aBool, aSorted, wipeA, aSeq, aNext, aSet, aVar, atV_s, onB_b, onI_i, onII_i, onL1_i, onL2_i, it_l, it_t, it_s, it_x, ix_l, ix_t, ix_s, add_i, add_x, eq_i, eq_x, eq_b, is_b, aC, aNil, aCons, aOp, aUn, aTup, aLst, aCB, aNot, aAnd, aOr, aTst, aIfE, aAndV, aOrV, aNotV, aChn, aDrop, aRet, aRetN, aIf, agName, agNil, agCons, agTup, aAsg, aPar, aAug, aFor, aRng1, aRng2, aIter, aLc, aYes,
  aCl, aMt, aMk, aFl, aFst, aNeg, aI2, aI20, aLe, aLt, aGt, aGe, aSub, aMod, aMul, aFdv, aPow, aXor, aShl, aShr, agSub, aoN, aoS, aSl, aRev, aLen, aList, aTupOf, aLRg1, aLRg2, aAbs, aI2N, aMax, aMin, aDm, aAll, aAny, aBM, aApp, aPopAt, aPop, aClear, aRevM, aExt, aRepr, aClD, aLnSt, aIAdd, aBreak, aCont,
  aEnd, startA, List.map_cons, List.map_nil, List.cons_append, List.nil_append, List.length_cons, List.length_nil, List.replicate, List.getElem?_cons_zero, List.getElem?_cons_succ, List.set_cons_zero, List.set_cons_succ, Nat.reduceAdd, Nat.reduceSub, Nat.succ_eq_add_one, Int.reduceAdd, Int.reduceMul,
  reduceIte, Bool.false_eq_true, Bool.not_true, Bool.not_false, ite_true, ite_false])
structure IsRk {α : Type} (ok : α → Prop) (W : List α → Int) (Cl : List α → α → Prop) : Prop where
  nil : W [] = 0
  yes : ∀ l x, (∀ a ∈ l, ok a) → ok x → Cl l x → W (l ++ [x]) = W l
  no : ∀ l x, (∀ a ∈ l, ok a) → ok x → ¬ Cl l x → W (l ++ [x]) = W l + 1
  mono : ∀ l x y, (∀ a ∈ l, ok a) → ok x → ok y → Cl l x → Cl (l ++ [y]) x
  perm : ∀ l m, (∀ a ∈ l, ok a) → l.Perm m → W l = W m
namespace IsRk
variable {α : Type} {ok : α → Prop} {W : List α → Int} {Cl : List α → α → Prop}
theorem oka {l m : List α} (h : ∀ a ∈ l, ok a) (k : ∀ a ∈ m, ok a) : ∀ a ∈ l ++ m, ok a := fun a ha => (List.mem_append.mp ha).elim (h a) (k a)
theorem ok1 {x : α} (h : ok x) : ∀ a ∈ [x], ok a := fun a ha => by rw [List.mem_singleton.mp ha]; exact h
theorem same_iff (R : IsRk ok W Cl) {l : List α} {x : α} (h : ∀ a ∈ l, ok a) (hx : ok x) : W (l ++ [x]) = W l ↔ Cl l x :=
  ⟨fun e => Classical.byContradiction fun n => by have := R.no l x h hx n; omega, R.yes l x h hx⟩
theorem step (R : IsRk ok W Cl) {l : List α} {x : α} (h : ∀ a ∈ l, ok a) (hx : ok x) : W l ≤ W (l ++ [x]) ∧ W (l ++ [x]) ≤ W l + 1 := by
  by_cases c : Cl l x
  · have := R.yes l x h hx c; omega
  · have := R.no l x h hx c; omega
theorem up (R : IsRk ok W Cl) {l : List α} (h : ∀ a ∈ l, ok a) : ∀ {m : List α}, (∀ a ∈ m, ok a) → W l ≤ W (l ++ m) ∧ W (l ++ m) ≤ W l + m.length := by
  intro m
  induction m generalizing l with
  | nil => intro _; rw [List.append_nil]; exact ⟨Int.le_refl _, by simp⟩
  | cons x m ih =>
    intro k
    have hx := k x List.mem_cons_self
    have s := R.step h hx
    have := ih (oka h (ok1 hx)) fun a ha => k a (List.mem_cons_of_mem _ ha)
    rw [List.append_assoc] at this
    rw [List.length_cons]
    show W l ≤ W (l ++ ([x] ++ m)) ∧ W (l ++ ([x] ++ m)) ≤ W l + ((m.length + 1 : Nat) : Int)
    omega
theorem bound (R : IsRk ok W Cl) {l : List α} (h : ∀ a ∈ l, ok a) : 0 ≤ W l ∧ W l ≤ l.length := by
  have := R.up (l := []) (fun _ z => (List.not_mem_nil z).elim) h
  rw [List.nil_append, R.nil] at this
  omega
theorem clos (R : IsRk ok W Cl) {l : List α} {x : α} (h : ∀ a ∈ l, ok a) (hx : ok x) (c : Cl l x) : ∀ {m : List α}, (∀ a ∈ m, ok a) → Cl (l ++ m) x := by
  intro m
  induction m generalizing l with
  | nil => intro _; rw [List.append_nil]; exact c
  | cons y m ih =>
    intro k
    have hy := k y List.mem_cons_self
    have := ih (oka h (ok1 hy)) (R.mono l x y h hx hy c) fun a ha => k a (List.mem_cons_of_mem _ ha)
    rwa [List.append_assoc] at this
/-- what adds nothing to fewer adds nothing to more -/
theorem sub (R : IsRk ok W Cl) {l m : List α} {x : α} (h : ∀ a ∈ l, ok a) (k : ∀ a ∈ m, ok a) (hx : ok x) (e : W (l ++ [x]) = W l) : W (l ++ m ++ [x]) = W (l ++ m) :=
  R.yes _ _ (oka h k) hx (R.clos h hx ((R.same_iff h hx).mp e) k)
theorem perm_last {l1 l2 : List α} {x : α} : (l1 ++ x :: l2).Perm (l1 ++ l2 ++ [x]) := by
  rw [List.append_assoc]
  exact List.Perm.append_left l1 (List.perm_append_comm (l₁ := [x]) (l₂ := l2))
theorem less (R : IsRk ok W Cl) {l1 l2 : List α} {x : α} (h : ∀ a ∈ l1 ++ x :: l2, ok a) : W (l1 ++ l2) ≤ W (l1 ++ x :: l2) ∧ W (l1 ++ x :: l2) ≤ W (l1 ++ l2) + 1 := by
  have h2 : ∀ a ∈ l1 ++ l2, ok a := fun a ha => h a (by rcases List.mem_append.mp ha with z | z; exact List.mem_append_left _ z; exact List.mem_append_right _ (List.mem_cons_of_mem _ z))
  have hx : ok x := h x (List.mem_append_right _ List.mem_cons_self)
  rw [R.perm _ _ h perm_last]
  exact R.step h2 hx
end IsRk
/-! ### lots -/
theorem sum_change {f g : Nat → Nat} {n l : Nat} (hl : l < n) (h : ∀ k, k ≠ l → f k = g k) : ((List.range n).map f).sum + g l = ((List.range n).map g).sum + f l := by
  induction n with
  | zero => omega
  | succ n ih =>
    rw [List.range_succ, List.map_append, List.map_append, List.sum_append_nat, List.sum_append_nat]
    by_cases e : l = n
    · subst e
      have same : (List.range l).map f = (List.range l).map g := List.map_congr_left fun k hk => h k (by have := List.mem_range.mp hk; omega)
      rw [same]
      simp
      omega
    · have := ih (by omega)
      have := h n (Ne.symm e)
      simp
      omega
def ClL (ts ls : List Nat) (l : Nat) : Prop := ts.getD l 0 ≤ ls.count l
theorem rk_lots (ts : List Nat) : IsRk (fun l => l < ts.length) (fun ls => ((worthL ts ls : Nat) : Int)) (ClL ts) := by
  have stp : ∀ ls l, l < ts.length → worthL ts (ls ++ [l]) + min (ls.count l) (ts.getD l 0) = worthL ts ls + min (ls.count l + 1) (ts.getD l 0) := fun ls l hl => by
    unfold worthL
    have := sum_change (f := fun k => min ((ls ++ [l]).count k) (ts.getD k 0)) (g := fun k => min (ls.count k) (ts.getD k 0)) hl fun k hk => by
      show min ((ls ++ [l]).count k) _ = _
      rw [List.count_append, List.count_singleton]
      have : (l == k) = false := by simpa using Ne.symm hk
      rw [this]
      simp
    have e : (ls ++ [l]).count l = ls.count l + 1 := by rw [List.count_append, List.count_singleton]; simp
    rw [e] at this
    exact this
  refine ⟨?_, fun ls l _ hl c => ?_, fun ls l _ hl c => ?_, fun ls l y _ _ _ c => ?_, fun ls ms _ h => ?_⟩
  · show ((worthL ts [] : Nat) : Int) = 0
    unfold worthL
    rw [show (fun k => min (([] : List Nat).count k) (ts.getD k 0)) = fun _ => 0 from funext fun k => by simp, List.map_const']
    simp
  · have := stp ls l hl
    have c' : ts.getD l 0 ≤ ls.count l := c
    show ((worthL ts _ : Nat) : Int) = (worthL ts _ : Nat)
    omega
  · have := stp ls l hl
    have c' : ¬ ts.getD l 0 ≤ ls.count l := c
    show ((worthL ts _ : Nat) : Int) = (worthL ts _ : Nat) + 1
    omega
  · show ts.getD l 0 ≤ (ls ++ [y]).count l
    have c' : ts.getD l 0 ≤ ls.count l := c
    rw [List.count_append]
    omega
  · show ((worthL ts _ : Nat) : Int) = (worthL ts _ : Nat)
    unfold worthL
    rw [show (fun k => min (ls.count k) (ts.getD k 0)) = fun k => min (ms.count k) (ts.getD k 0) from funext fun k => by rw [h.count_eq]]
/-! ### rows -/
theorem rk_rows : IsRk (fun _ : Nat => True) worthR (fun ls x => Spn ls.reverse x) := by
  refine ⟨rfl, fun l x _ _ c => ?_, fun l x _ _ c => ?_, fun l x y _ _ _ c => ?_, fun l m _ h => ?_⟩
  · unfold worthR
    rw [List.reverse_append]
    show ((rk l.reverse + (if Spn l.reverse x then 0 else 1) : Nat) : Int) = _
    rw [if_pos c]
    rfl
  · unfold worthR
    rw [List.reverse_append]
    show ((rk l.reverse + (if Spn l.reverse x then 0 else 1) : Nat) : Int) = _
    rw [if_neg c]
    omega
  · rw [List.reverse_append]
    exact .inl c
  · unfold worthR
    rw [rk_perm (((List.reverse_perm _).trans h).trans (List.reverse_perm _).symm)]
/-! ### ties -/
theorem rk_ties (n : Nat) : IsRk (fun e : Tie => InR n e.1 ∧ InR n e.2) (worthT n) (fun es e => labs es e.1 = labs es e.2) := by
  refine ⟨?_, fun l x h hx c => ?_, fun l x h hx c => ?_, fun l x y _ _ _ c => ?_, fun l m h p => ?_⟩
  · unfold worthT
    rw [show labs [] = fun i => i from rfl, cnt_id]
    omega
  · unfold worthT
    rw [labs_snoc, step_same c]
  · unfold worthT
    rw [labs_snoc]
    have := cnt_union hx.1 hx.2 (good_labs h).rg c
    omega
  · rw [labs_snoc]
    unfold stepLab
    rw [c]
  · unfold worthT
    rw [cnt_perm p h]
/-! ### seats -/
def unT (T U : List Int) : List Int := T ++ U.filter fun s => !decide (s ∈ T)
def inU (T U : List Int) : List Int := T.filter fun s => decide (s ∈ U)
theorem mem_unT {T U : List Int} {x : Int} : x ∈ unT T U ↔ x ∈ T ∨ x ∈ U := by
  unfold unT
  rw [List.mem_append, List.mem_filter]
  by_cases q : x ∈ T <;> simp [q]
theorem mem_inU {T U : List Int} {x : Int} : x ∈ inU T U ↔ x ∈ T ∧ x ∈ U := by
  unfold inU
  rw [List.mem_filter, decide_eq_true_iff]
theorem nd_unT {T U : List Int} (h : T.Nodup) (k : U.Nodup) : (unT T U).Nodup := by
  unfold unT
  rw [List.nodup_append]
  refine ⟨h, k.sublist List.filter_sublist, fun x hx y hy => ?_⟩
  rintro rfl
  have := (List.mem_filter.mp hy).2
  simp [hx] at this
theorem nd_inU {T U : List Int} (h : T.Nodup) : (inU T U).Nodup := h.sublist List.filter_sublist
theorem len_un {T U : List Int} (h : T.Nodup) (k : U.Nodup) : (unT T U).length + (inU T U).length = T.length + U.length := by
  have e : (inU T U).length = (U.filter fun s => decide (s ∈ T)).length := by
    refine Nat.le_antisymm (sub_len (nd_inU h) fun x hx => ?_) (sub_len (k.sublist List.filter_sublist) fun x hx => ?_)
    · obtain ⟨a, b⟩ := mem_inU.mp hx
      exact List.mem_filter.mpr ⟨b, decide_eq_true a⟩
    · obtain ⟨a, b⟩ := List.mem_filter.mp hx
      exact mem_inU.mpr ⟨of_decide_eq_true b, a⟩
  have s := filter_split (fun s => decide (s ∈ T)) U
  rw [e]
  unfold unT
  rw [List.length_append]
  omega
theorem bd_sub {Rs : List (List Int)} {T U : List Int} (h : T.Nodup) (k : U.Nodup) : bd Rs (unT T U) + bd Rs (inU T U) ≤ bd Rs T + bd Rs U := by
  have l := len_un h k
  have main : ((Rs.filter fun r => !inT (unT T U) r).length + (Rs.filter fun r => !inT (inU T U) r).length) ≤ (Rs.filter fun r => !inT T r).length + (Rs.filter fun r => !inT U r).length := by
    induction Rs with
    | nil => exact Nat.le_refl _
    | cons r Rs ih =>
      have f : ∀ (p : List Int → Bool), ((r :: Rs).filter p).length = (Rs.filter p).length + if p r then 1 else 0 := fun p => by
        rw [List.filter_cons]
        split <;> simp_all
      rw [f, f, f, f]
      have a1 : inT T r = true → inT (unT T U) r = true := fun z => inT_iff.mpr fun s hs => mem_unT.mpr (.inl (inT_iff.mp z s hs))
      have a2 : inT U r = true → inT (unT T U) r = true := fun z => inT_iff.mpr fun s hs => mem_unT.mpr (.inr (inT_iff.mp z s hs))
      have a3 : inT T r = true → inT U r = true → inT (inU T U) r = true := fun z w => inT_iff.mpr fun s hs => mem_inU.mpr ⟨inT_iff.mp z s hs, inT_iff.mp w s hs⟩
      cases e1 : inT T r <;> cases e2 : inT U r <;> simp_all <;> (repeat (first | omega | split))
  unfold bd
  omega
theorem bd_snoc {Rs : List (List Int)} {r T : List Int} : bd (Rs ++ [r]) T = bd Rs T + if inT T r then 0 else 1 := by
  rw [bd_perm (List.perm_append_comm (l₁ := Rs) (l₂ := [r]))]
  exact bd_cons
def ClS (Rs : List (List Int)) (r : List Int) : Prop := ∃ T : List Int, T.Nodup ∧ bd Rs T = worthS Rs ∧ inT T r = true
theorem rk_seats : IsRk (fun _ : List Int => True) (fun Rs => ((worthS Rs : Nat) : Int)) ClS := by
  have mono : ∀ Rs r, worthS Rs ≤ worthS (Rs ++ [r]) ∧ worthS (Rs ++ [r]) ≤ worthS Rs + 1 := fun Rs r => by
    obtain ⟨⟨T, h1, h2⟩, h3⟩ := worthS_spec Rs
    obtain ⟨⟨U, k1, k2⟩, k3⟩ := worthS_spec (Rs ++ [r])
    have a := h3 U k1
    have b := k3 T h1
    rw [bd_snoc] at k2 b
    split at k2 <;> split at b <;> omega
  have yes : ∀ Rs r, ClS Rs r → worthS (Rs ++ [r]) = worthS Rs := fun Rs r ⟨T, h1, h2, h3⟩ => by
    have := (worthS_spec (Rs ++ [r])).2 T h1
    rw [bd_snoc, if_pos h3] at this
    have := (mono Rs r).1
    omega
  have no : ∀ Rs r, ¬ ClS Rs r → worthS (Rs ++ [r]) = worthS Rs + 1 := fun Rs r n => by
    obtain ⟨⟨U, k1, k2⟩, _⟩ := worthS_spec (Rs ++ [r])
    have a := (worthS_spec Rs).2 U k1
    have := (mono Rs r).2
    rw [bd_snoc] at k2
    by_cases c : inT U r = true
    · rw [if_pos c] at k2
      have : bd Rs U ≠ worthS Rs := fun z => n ⟨U, k1, z, c⟩
      omega
    · rw [if_neg c] at k2
      omega
  refine ⟨?_, fun l x _ _ c => ?_, fun l x _ _ c => ?_, fun l x y _ _ _ c => ?_, fun l m _ h => ?_⟩
  · show ((worthS [] : Nat) : Int) = 0
    rw [worthS_is (Rs := []) (v := 0) (T := []) List.nodup_nil rfl fun _ _ => Nat.zero_le _]
    rfl
  · show ((worthS _ : Nat) : Int) = (worthS _ : Nat)
    rw [yes l x c]
  · show ((worthS _ : Nat) : Int) = (worthS _ : Nat) + 1
    rw [no l x c]
    rfl
  · obtain ⟨T, h1, h2, h3⟩ := c
    by_cases cy : inT T y = true
    · refine ⟨T, h1, ?_, h3⟩
      have := (worthS_spec (l ++ [y])).2 T h1
      have := (mono l y).1
      rw [bd_snoc, if_pos cy] at *
      omega
    · by_cases d : ClS l y
      · obtain ⟨U, k1, k2, k3⟩ := d
        refine ⟨unT T U, nd_unT h1 k1, ?_, inT_iff.mpr fun s hs => mem_unT.mpr (.inl (inT_iff.mp h3 s hs))⟩
        have hy : inT (unT T U) y = true := inT_iff.mpr fun s hs => mem_unT.mpr (.inr (inT_iff.mp k3 s hs))
        rw [bd_snoc, if_pos hy, yes l y ⟨U, k1, k2, k3⟩]
        have := bd_sub (Rs := l) h1 k1
        have := (worthS_spec l).2 _ (nd_unT h1 k1)
        have := (worthS_spec l).2 _ (nd_inU (U := U) h1)
        omega
      · refine ⟨T, h1, ?_, h3⟩
        rw [bd_snoc, if_neg cy, no l y d]
        omega
  · show ((worthS _ : Nat) : Int) = (worthS _ : Nat)
    rw [worthS_perm h]
/-! ### yards -/
theorem IsRk.map {α β : Type} {ok : α → Prop} {W : List α → Int} {Cl : List α → α → Prop} (R : IsRk ok W Cl) {f : β → α} {ok' : β → Prop} (h : ∀ b, ok' b → ok (f b)) : IsRk ok' (fun l => W (l.map f)) (fun l x => Cl (l.map f) (f x)) := by
  have all : ∀ {l : List β}, (∀ b ∈ l, ok' b) → ∀ a ∈ l.map f, ok a := fun hl a ha => by
    obtain ⟨b, hb, rfl⟩ := List.mem_map.mp ha
    exact h b (hl b hb)
  refine ⟨R.nil, fun l x hl hx c => ?_, fun l x hl hx c => ?_, fun l x y hl hx hy c => ?_, fun l m hl p => R.perm _ _ (all hl) (p.map f)⟩
  · show W ((l ++ [x]).map f) = _
    rw [List.map_append]
    exact R.yes _ _ (all hl) (h x hx) c
  · show W ((l ++ [x]).map f) = _
    rw [List.map_append]
    exact R.no _ _ (all hl) (h x hx) c
  · show Cl ((l ++ [y]).map f) _
    rw [List.map_append]
    exact R.mono _ _ _ (all hl) (h x hx) (h y hy) c
def Yd.Cl : Yd → List Int → Int → Prop
  | .ties _ es, hp, i => labs (hp.map (tieAt es)) (tieAt es i).1 = labs (hp.map (tieAt es)) (tieAt es i).2
  | .rows rs, hp, i => Spn (hp.map (natAt rs)).reverse (natAt rs i)
  | .lots ts ls, hp, i => ClL ts (hp.map (natAt ls)) (natAt ls i)
  | .seats _ rs, hp, i => ClS (hp.map (rowAt rs)) (rowAt rs i)
theorem Yd.rk {u : Yd} (ok : u.Ok) : IsRk (InR u.len) u.worth u.Cl := by
  cases u with
  | ties n es => exact (rk_ties n).map (f := tieAt es) fun i hi => ok.2.2.2 _ (getD_mem (x := (0, 0)) hi)
  | rows rs => exact rk_rows.map (f := natAt rs) fun _ _ => trivial
  | lots ts ls => exact (rk_lots ts).map (f := natAt ls) fun i hi => ok.2.2.2 _ (getD_mem (x := 0) hi)
  | seats n rs => exact rk_seats.map (f := rowAt rs) fun _ _ => trivial
end A

namespace A
open PySem PySem.Spec L2 PyProof.Rows
local macro_rules | `(tactic| walk_at "A.go") => `(tactic| simp only [aSeq, aNext, aSet, aVar, atV_s, onB_b, onI_i, onII_i, onL1_i, onL2_i, it_l, it_t, it_s, it_x, ix_l, ix_t, ix_s, add_i, add_x, eq_i, eq_x, eq_b, is_b, aC, aNil, aCons, aOp, aUn, aTup, aLst, aCB, aNot, aAnd, aOr, aTst, aIfE, aAndV, aOrV, aNotV, aChn, aDrop, aRet, aRetN, aIf, agName, agNil, agCons, agTup, aAsg, aPar, aAug, aFor, aRng1, aRng2, aIter, aLc, aYes,
  aCl, aMt, aMk, aFl, aFst, aNeg, aI2, aI20, aLe, aLt, aGt, aGe, aSub, aMod, aMul, aFdv, aPow, aXor, aShl, aShr, agSub, aoN, aoS, aSl, aRev, aLen, aList, aTupOf, aLRg1, aLRg2, aAbs, aI2N, aMax, aMin, aDm, aAll, aAny, aBM, aApp, aPopAt, aPop, aClear, aRevM, aExt, aRepr, aClD, aLnSt, aIAdd, aBreak, aCont,
  aEnd, startA, List.map_cons, List.map_nil, List.cons_append, List.nil_append, List.length_cons, List.length_nil, List.replicate, List.getElem?_cons_zero, List.getElem?_cons_succ, List.set_cons_zero, List.set_cons_succ, Nat.reduceAdd, Nat.reduceSub, Nat.succ_eq_add_one, Int.reduceAdd, Int.reduceMul,
  reduceIte, Bool.false_eq_true, Bool.not_true, Bool.not_false, ite_true, ite_false])
local macro_rules | `(tactic| walk_at "A.hop") => `(tactic| try simp only [aMtF, aFmt, aJs, aEqO, aNeO, aReprF, aRevT, aIsiT, aInt, aStrI, aEnum, aZip, aMulL, aCount, aAugS, aSetOf, aSrtSet, aSum, aDNew, aDIn, aDIx, aDPut, aLenD, aListD, aBits, aDsp1, aBool, aSorted, wipeA, aSeq, aNext, aSet, aVar, atV_s, onB_b, onI_i, onII_i, onL1_i, onL2_i, it_l, it_t, it_s, it_x, ix_l, ix_t, ix_s, add_i, add_x, eq_i, eq_x, eq_b, is_b, aC, aNil, aCons, aOp, aUn, aTup, aLst, aCB, aNot, aAnd, aOr, aTst, aIfE, aAndV, aOrV, aNotV, aChn, aDrop, aRet, aRetN, aIf, agName, agNil, agCons, agTup, aAsg, aPar, aAug, aFor, aRng1, aRng2, aIter, aLc, aYes,
  aCl, aMt, aMk, aFl, aFst, aNeg, aI2, aI20, aLe, aLt, aGt, aGe, aSub, aMod, aMul, aFdv, aPow, aXor, aShl, aShr, agSub, aoN, aoS, aSl, aRev, aLen, aList, aTupOf, aLRg1, aLRg2, aAbs, aI2N, aMax, aMin, aDm, aAll, aAny, aBM, aApp, aPopAt, aPop, aClear, aRevM, aExt, aRepr, aClD, aLnSt, aIAdd, aBreak, aCont,
  aEnd, startA, List.map_cons, List.map_nil, List.cons_append, List.nil_append, List.length_cons, List.length_nil, List.replicate, List.getElem?_cons_zero, List.getElem?_cons_succ, List.set_cons_zero, List.set_cons_succ, Nat.reduceAdd, Nat.reduceSub, Nat.succ_eq_add_one, Int.reduceAdd, Int.reduceMul,
  reduceIte, Bool.false_eq_true, Bool.not_true, Bool.not_false, ite_true, ite_false])
local macro_rules | `(tactic| walk_at "A.lop") => `(tactic| try simp only [decide_true, decide_false, aMtF, aFmt, aJs, aEqO, aNeO, aReprF, aRevT, aIsiT, aInt, aStrI, aEnum, aZip, aMulL, aCount, aAugS, aSetOf, aSrtSet, aSum, aDNew, aDIn, aDIx, aDPut, aLenD, aListD, aBits, aDsp1, aBool, aSorted, wipeA, aSeq, aNext, aSet, aVar, atV_s, onB_b, onI_i, onII_i, onL1_i, onL2_i, it_l, it_t, it_s, it_x, ix_l, ix_t, ix_s, add_i, add_x, eq_i, eq_x, eq_b, is_b, aC, aNil, aCons, aOp, aUn, aTup, aLst, aCB, aNot, aAnd, aOr, aTst, aIfE, aAndV, aOrV, aNotV, aChn, aDrop, aRet, aRetN, aIf, agName, agNil, agCons, agTup, aAsg, aPar, aAug, aFor, aRng1, aRng2, aIter, aLc, aYes,
  aCl, aMt, aMk, aFl, aFst, aNeg, aI2, aI20, aLe, aLt, aGt, aGe, aSub, aMod, aMul, aFdv, aPow, aXor, aShl, aShr, agSub, aoN, aoS, aSl, aRev, aLen, aList, aTupOf, aLRg1, aLRg2, aAbs, aI2N, aMax, aMin, aDm, aBM, aApp, aPopAt, aPop, aClear, aRevM, aExt, aClD, aLnSt, aIAdd, aBreak, aCont,
  aEnd, startA, List.map_cons, List.map_nil, List.cons_append, List.nil_append, List.length_cons, List.length_nil, List.replicate, List.getElem?_cons_zero, List.getElem?_cons_succ, List.set_cons_zero, List.set_cons_succ, Nat.reduceAdd, Nat.reduceSub, Nat.succ_eq_add_one, Int.reduceAdd, Int.reduceMul,
  reduceIte, Bool.false_eq_true, Bool.not_true, Bool.not_false, ite_true, ite_false])
/-! ### what laws often do -/
theorem rd_bls {S : Sto} {n : Nat} (l : List Bool) : rd S (n + 2) (.lst (l.map D.bl)) = some (.list (l.map PyData.bool)) := by
  show (rdL (rd S (n + 1)) (l.map D.bl)).map PyData.list = _
  rw [rdL_map (f := rd S (n + 1)) (g := D.bl) (h := PyData.bool) fun _ => rfl]
  rfl
theorem rep_bls {S : Sto} {d : D} {ns : List Bool} {Q : KD} (h : asL S d = some (List.map D.bl ns)) (hn : ns.length ≤ 1000) (q : Q (.str (PyData.list (ns.map PyData.bool)).shown) S) : aRepr [d] S Q := by
  refine ⟨d, 2, .list (ns.map PyData.bool), rfl, by decide, by rw [rd_asL 1 h]; exact rd_bls (n := 0) ns, .inl ⟨_, rfl⟩, ?_, ?_, q⟩
  · simp only [sml]
    refine smlAll_of fun x hx => ?_
    obtain ⟨i, hi, rfl⟩ := List.mem_map.mp hx
    rfl
  · simp only [PyData.weight]
    have := weightAll_le (B := 40) (l := ns.map PyData.bool) fun x hx => by
      obtain ⟨i, hi, rfl⟩ := List.mem_map.mp hx
      simp only [PyData.weight]
      omega
    rw [List.length_map] at this
    omega
/-- two lists of ints are compared -/
theorem eq_ints {S : Sto} {d e : D} {l m : List Int} {neg : Bool} {Q : KD} (hd : asL S d = some (List.map D.int l)) (he : asL S e = some (List.map D.int m)) (q : Q (.bl (if neg then !decide (l = m) else decide (l = m))) S) : aEqD neg d e S Q := by
  have deep : ∃ n p q, n ≤ 60 ∧ rd S n d = some p ∧ rd S n e = some q ∧ Q (.bl (if neg then !PyData.eqv p q else PyData.eqv p q)) S :=
    ⟨2, _, _, by decide, by rw [rd_asL 1 hd]; exact rd_ints (n := 0) l, by rw [rd_asL 1 he]; exact rd_ints (n := 0) m, by rw [eqv_listInts]; exact q⟩
  cases d with
  | lst _ => exact deep
  | own _ => exact deep
  | _ => cases hd
theorem rng0 (m : Nat) : rngD 0 ((m : Int)).toNat = (rng m).map .int := by rw [rngD0]; rfl
/-- [k for k in range(m) if ..] -/
theorem lc_filter {t : AT} {ρ0 : En} {Q : KD} {i m : Nat} {S : Sto} {e : AE} (p : Int → Bool) (he : ∀ (k : Int) (g : D → Sto → Prop), g (.int k) S → e (ρ0.set i (some (.int k))) S g noX)
    (step : ∀ k : Int, InR m k → ∀ g : Bool → Sto → Prop, g (p k) S → t (ρ0.set i (some (.int k))) S g noX) (q : NewL (((rng m).filter p).map D.int) S Q) :
    aLcL (agName i) t e (fun _ => True) ρ0 Q (rngD 0 ((m : Int)).toNat) [] S := by
  rw [rng0]
  refine aLcL_inv (fun j acc S' => S' = S ∧ acc = (((rng m).take j).filter p).map D.int) ?_ ?_ ⟨rfl, rfl⟩
  · rintro j d acc S' g hd ⟨rfl, rfl⟩ hg
    rw [List.getElem?_map] at hd
    obtain ⟨k, hk, rfl⟩ := Option.map_eq_some_iff.mp hd
    have tk : (rng m).take (j + 1) = (rng m).take j ++ [k] := by rw [List.take_add_one, hk]; rfl
    refine ⟨trivial, ?_⟩
    change t (ρ0.set i (some (.int k))) S' _ noX
    refine step k (mem_rngI.mp (List.mem_of_getElem? hk)) _ ?_
    cases c : p k with
    | true =>
      rw [if_pos rfl]
      refine he k _ (hg _ _ ⟨rfl, ?_⟩)
      rw [tk, List.filter_append]
      simp [c]
    | false =>
      rw [if_neg Bool.false_ne_true]
      refine hg _ _ ⟨rfl, ?_⟩
      rw [tk, List.filter_append]
      simp [c]
  · rintro acc S' ⟨rfl, rfl⟩
    rw [List.length_map, List.take_length]
    exact ⟨trivial, q⟩
/-- all([..]) of a list of truths -/
theorem all_of {S : Sto} {d : D} {bs : List Bool} {Q : KD} (h : asL S d = some (List.map D.bl bs)) (q : Q (.bl (bs.all id)) S) : aAll [d] S Q := ⟨d, _, bs, rfl, h, blsOf_map bs, q⟩
/-! #### heaps -/
def wo (hp : List Int) (i : Int) : List Int := hp.filter fun k => !decide (k = i)
theorem mem_wo {hp : List Int} {i k : Int} : k ∈ wo hp i ↔ k ∈ hp ∧ k ≠ i := by unfold wo; rw [List.mem_filter]; simp
theorem heap_wo {m : Nat} {hp : List Int} {i : Int} (h : Heap_ m hp) : Heap_ m (wo hp i) := ⟨h.1.sublist List.filter_sublist, fun k hk => h.2 k (mem_wo.mp hk).1⟩
theorem heap_len {m : Nat} {hp : List Int} (h : Heap_ m hp) : hp.length ≤ m := by
  have := sub_len h.1 fun x hx => mem_rngI.mpr (h.2 x hx)
  rwa [rng_length] at this
theorem heap_perm {m : Nat} {hp hq : List Int} (h : Heap_ m hp) (p : hq.Perm hp) : Heap_ m hq := ⟨p.nodup_iff.mpr h.1, fun i hi => h.2 i (p.mem_iff.mp hi)⟩
theorem wo_perm' {hp : List Int} {i : Int} (h : hp.Nodup) (hi : i ∈ hp) : hp.Perm (wo hp i ++ [i]) := by
  refine perm_of h ?_ fun k => ?_
  · rw [List.nodup_append]
    exact ⟨h.sublist List.filter_sublist, by simp, fun a ha b hb => by rw [List.mem_singleton.mp hb]; exact (mem_wo.mp ha).2⟩
  · rw [List.mem_append, mem_wo, List.mem_singleton]
    by_cases e : k = i
    · simp [e, hi]
    · simp [e]
section
variable {u : Yd} {hp hq : List Int} {i : Int}
theorem Yd.w_wo (ok : u.Ok) (h : Heap_ u.len hp) (hi : i ∈ hp) : u.worth (wo hp i) ≤ u.worth hp ∧ u.worth hp ≤ u.worth (wo hp i) + 1 := by
  rw [Yd.worth_perm ok h.2 (wo_perm' h.1 hi)]
  exact (Yd.rk ok).step (heap_wo h).2 (h.2 i hi)
theorem wo_len (h : hp.Nodup) (hi : i ∈ hp) : (wo hp i).length + 1 = hp.length := by
  have := (wo_perm' h hi).length_eq
  rw [List.length_append, List.length_singleton] at this
  omega
end
theorem told_len (u : Yd) : u.told.length = u.len := by cases u <;> simp [Yd.told, Yd.len]
end A

namespace A
open PySem PySem.Spec L2 PyProof.Rows
local macro_rules | `(tactic| walk_at "A.go") => `(tactic| simp only [aSeq, aNext, aSet, aVar, atV_s, onB_b, onI_i, onII_i, onL1_i, onL2_i, it_l, it_t, it_s, it_x, ix_l, ix_t, ix_s, add_i, add_x, eq_i, eq_x, eq_b, is_b, aC, aNil, aCons, aOp, aUn, aTup, aLst, aCB, aNot, aAnd, aOr, aTst, aIfE, aAndV, aOrV, aNotV, aChn, aDrop, aRet, aRetN, aIf, agName, agNil, agCons, agTup, aAsg, aPar, aAug, aFor, aRng1, aRng2, aIter, aLc, aYes,
  aCl, aMt, aMk, aFl, aFst, aNeg, aI2, aI20, aLe, aLt, aGt, aGe, aSub, aMod, aMul, aFdv, aPow, aXor, aShl, aShr, agSub, aoN, aoS, aSl, aRev, aLen, aList, aTupOf, aLRg1, aLRg2, aAbs, aI2N, aMax, aMin, aDm, aAll, aAny, aBM, aApp, aPopAt, aPop, aClear, aRevM, aExt, aRepr, aClD, aLnSt, aIAdd, aBreak, aCont,
  aEnd, startA, List.map_cons, List.map_nil, List.cons_append, List.nil_append, List.length_cons, List.length_nil, List.replicate, List.getElem?_cons_zero, List.getElem?_cons_succ, List.set_cons_zero, List.set_cons_succ, Nat.reduceAdd, Nat.reduceSub, Nat.succ_eq_add_one, Int.reduceAdd, Int.reduceMul,
  reduceIte, Bool.false_eq_true, Bool.not_true, Bool.not_false, ite_true, ite_false])
local macro_rules | `(tactic| walk_at "A.hop") => `(tactic| try simp only [aMtF, aFmt, aJs, aEqO, aNeO, aReprF, aRevT, aIsiT, aInt, aStrI, aEnum, aZip, aMulL, aCount, aAugS, aSetOf, aSrtSet, aSum, aDNew, aDIn, aDIx, aDPut, aLenD, aListD, aBits, aDsp1, aBool, aSorted, wipeA, aSeq, aNext, aSet, aVar, atV_s, onB_b, onI_i, onII_i, onL1_i, onL2_i, it_l, it_t, it_s, it_x, ix_l, ix_t, ix_s, add_i, add_x, eq_i, eq_x, eq_b, is_b, aC, aNil, aCons, aOp, aUn, aTup, aLst, aCB, aNot, aAnd, aOr, aTst, aIfE, aAndV, aOrV, aNotV, aChn, aDrop, aRet, aRetN, aIf, agName, agNil, agCons, agTup, aAsg, aPar, aAug, aFor, aRng1, aRng2, aIter, aLc, aYes,
  aCl, aMt, aMk, aFl, aFst, aNeg, aI2, aI20, aLe, aLt, aGt, aGe, aSub, aMod, aMul, aFdv, aPow, aXor, aShl, aShr, agSub, aoN, aoS, aSl, aRev, aLen, aList, aTupOf, aLRg1, aLRg2, aAbs, aI2N, aMax, aMin, aDm, aAll, aAny, aBM, aApp, aPopAt, aPop, aClear, aRevM, aExt, aRepr, aClD, aLnSt, aIAdd, aBreak, aCont,
  aEnd, startA, List.map_cons, List.map_nil, List.cons_append, List.nil_append, List.length_cons, List.length_nil, List.replicate, List.getElem?_cons_zero, List.getElem?_cons_succ, List.set_cons_zero, List.set_cons_succ, Nat.reduceAdd, Nat.reduceSub, Nat.succ_eq_add_one, Int.reduceAdd, Int.reduceMul,
  reduceIte, Bool.false_eq_true, Bool.not_true, Bool.not_false, ite_true, ite_false])
local macro_rules | `(tactic| walk_at "A.lop") => `(tactic| try simp only [decide_true, decide_false, aMtF, aFmt, aJs, aEqO, aNeO, aReprF, aRevT, aIsiT, aInt, aStrI, aEnum, aZip, aMulL, aCount, aAugS, aSetOf, aSrtSet, aSum, aDNew, aDIn, aDIx, aDPut, aLenD, aListD, aBits, aDsp1, aBool, aSorted, wipeA, aSeq, aNext, aSet, aVar, atV_s, onB_b, onI_i, onII_i, onL1_i, onL2_i, it_l, it_t, it_s, it_x, ix_l, ix_t, ix_s, add_i, add_x, eq_i, eq_x, eq_b, is_b, aC, aNil, aCons, aOp, aUn, aTup, aLst, aCB, aNot, aAnd, aOr, aTst, aIfE, aAndV, aOrV, aNotV, aChn, aDrop, aRet, aRetN, aIf, agName, agNil, agCons, agTup, aAsg, aPar, aAug, aFor, aRng1, aRng2, aIter, aLc, aYes,
  aCl, aMt, aMk, aFl, aFst, aNeg, aI2, aI20, aLe, aLt, aGt, aGe, aSub, aMod, aMul, aFdv, aPow, aXor, aShl, aShr, agSub, aoN, aoS, aSl, aRev, aLen, aList, aTupOf, aLRg1, aLRg2, aAbs, aI2N, aMax, aMin, aDm, aBM, aApp, aPopAt, aPop, aClear, aRevM, aExt, aClD, aLnSt, aIAdd, aBreak, aCont,
  aEnd, startA, List.map_cons, List.map_nil, List.cons_append, List.nil_append, List.length_cons, List.length_nil, List.replicate, List.getElem?_cons_zero, List.getElem?_cons_succ, List.set_cons_zero, List.set_cons_succ, Nat.reduceAdd, Nat.reduceSub, Nat.succ_eq_add_one, Int.reduceAdd, Int.reduceMul,
  reduceIte, Bool.false_eq_true, Bool.not_true, Bool.not_false, ite_true, ite_false])
/-! ### told, equal, counted, shown -/
/-! #### the arguments, as data that may be compared -/
end A

namespace A
open PySem PySem.Spec L2 PyProof.Rows
local macro_rules | `(tactic| walk_at "A.go") => `(tactic| simp only [aSeq, aNext, aSet, aVar, atV_s, onB_b, onI_i, onII_i, onL1_i, onL2_i, it_l, it_t, it_s, it_x, ix_l, ix_t, ix_s, add_i, add_x, eq_i, eq_x, eq_b, is_b, aC, aNil, aCons, aOp, aUn, aTup, aLst, aCB, aNot, aAnd, aOr, aTst, aIfE, aAndV, aOrV, aNotV, aChn, aDrop, aRet, aRetN, aIf, agName, agNil, agCons, agTup, aAsg, aPar, aAug, aFor, aRng1, aRng2, aIter, aLc, aYes,
  aCl, aMt, aMk, aFl, aFst, aNeg, aI2, aI20, aLe, aLt, aGt, aGe, aSub, aMod, aMul, aFdv, aPow, aXor, aShl, aShr, agSub, aoN, aoS, aSl, aRev, aLen, aList, aTupOf, aLRg1, aLRg2, aAbs, aI2N, aMax, aMin, aDm, aAll, aAny, aBM, aApp, aPopAt, aPop, aClear, aRevM, aExt, aRepr, aClD, aLnSt, aIAdd, aBreak, aCont,
  aEnd, startA, List.map_cons, List.map_nil, List.cons_append, List.nil_append, List.length_cons, List.length_nil, List.replicate, List.getElem?_cons_zero, List.getElem?_cons_succ, List.set_cons_zero, List.set_cons_succ, Nat.reduceAdd, Nat.reduceSub, Nat.succ_eq_add_one, Int.reduceAdd, Int.reduceMul,
  reduceIte, Bool.false_eq_true, Bool.not_true, Bool.not_false, ite_true, ite_false])
local macro_rules | `(tactic| walk_at "A.hop") => `(tactic| try simp only [aMtF, aFmt, aJs, aEqO, aNeO, aReprF, aRevT, aIsiT, aInt, aStrI, aEnum, aZip, aMulL, aCount, aAugS, aSetOf, aSrtSet, aSum, aDNew, aDIn, aDIx, aDPut, aLenD, aListD, aBits, aDsp1, aBool, aSorted, wipeA, aSeq, aNext, aSet, aVar, atV_s, onB_b, onI_i, onII_i, onL1_i, onL2_i, it_l, it_t, it_s, it_x, ix_l, ix_t, ix_s, add_i, add_x, eq_i, eq_x, eq_b, is_b, aC, aNil, aCons, aOp, aUn, aTup, aLst, aCB, aNot, aAnd, aOr, aTst, aIfE, aAndV, aOrV, aNotV, aChn, aDrop, aRet, aRetN, aIf, agName, agNil, agCons, agTup, aAsg, aPar, aAug, aFor, aRng1, aRng2, aIter, aLc, aYes,
  aCl, aMt, aMk, aFl, aFst, aNeg, aI2, aI20, aLe, aLt, aGt, aGe, aSub, aMod, aMul, aFdv, aPow, aXor, aShl, aShr, agSub, aoN, aoS, aSl, aRev, aLen, aList, aTupOf, aLRg1, aLRg2, aAbs, aI2N, aMax, aMin, aDm, aAll, aAny, aBM, aApp, aPopAt, aPop, aClear, aRevM, aExt, aRepr, aClD, aLnSt, aIAdd, aBreak, aCont,
  aEnd, startA, List.map_cons, List.map_nil, List.cons_append, List.nil_append, List.length_cons, List.length_nil, List.replicate, List.getElem?_cons_zero, List.getElem?_cons_succ, List.set_cons_zero, List.set_cons_succ, Nat.reduceAdd, Nat.reduceSub, Nat.succ_eq_add_one, Int.reduceAdd, Int.reduceMul,
  reduceIte, Bool.false_eq_true, Bool.not_true, Bool.not_false, ite_true, ite_false])
local macro_rules | `(tactic| walk_at "A.lop") => `(tactic| try simp only [decide_true, decide_false, aMtF, aFmt, aJs, aEqO, aNeO, aReprF, aRevT, aIsiT, aInt, aStrI, aEnum, aZip, aMulL, aCount, aAugS, aSetOf, aSrtSet, aSum, aDNew, aDIn, aDIx, aDPut, aLenD, aListD, aBits, aDsp1, aBool, aSorted, wipeA, aSeq, aNext, aSet, aVar, atV_s, onB_b, onI_i, onII_i, onL1_i, onL2_i, it_l, it_t, it_s, it_x, ix_l, ix_t, ix_s, add_i, add_x, eq_i, eq_x, eq_b, is_b, aC, aNil, aCons, aOp, aUn, aTup, aLst, aCB, aNot, aAnd, aOr, aTst, aIfE, aAndV, aOrV, aNotV, aChn, aDrop, aRet, aRetN, aIf, agName, agNil, agCons, agTup, aAsg, aPar, aAug, aFor, aRng1, aRng2, aIter, aLc, aYes,
  aCl, aMt, aMk, aFl, aFst, aNeg, aI2, aI20, aLe, aLt, aGt, aGe, aSub, aMod, aMul, aFdv, aPow, aXor, aShl, aShr, agSub, aoN, aoS, aSl, aRev, aLen, aList, aTupOf, aLRg1, aLRg2, aAbs, aI2N, aMax, aMin, aDm, aBM, aApp, aPopAt, aPop, aClear, aRevM, aExt, aClD, aLnSt, aIAdd, aBreak, aCont,
  aEnd, startA, List.map_cons, List.map_nil, List.cons_append, List.nil_append, List.length_cons, List.length_nil, List.replicate, List.getElem?_cons_zero, List.getElem?_cons_succ, List.set_cons_zero, List.set_cons_succ, Nat.reduceAdd, Nat.reduceSub, Nat.succ_eq_add_one, Int.reduceAdd, Int.reduceMul,
  reduceIte, Bool.false_eq_true, Bool.not_true, Bool.not_false, ite_true, ite_false])
/-! ### shown -/
theorem shown_len {p : PyData} (h : p.canLay0 = true) (sm : sml p = true) : p.shown.length ≤ 15 * p.weight + 13 := PyData.shown_le 13 (by decide) p (PyData.leavesShort_of_canLay0 13 p h (sml_show p sm).2)
/-- a short list, within a text -/
structure ShortL (S : Sto) (d : D) (p : PyData) : Prop where
  rd : ∃ n, n ≤ 60 ∧ rd S n d = some p ∧ ∃ l, p = .list l
  sm : sml p = true
  wt : p.weight ≤ 30000
theorem ShortL.len {S : Sto} {d : D} {p : PyData} (h : ShortL S d p) : p.shown.length ≤ 500000 := by
  obtain ⟨n, _, e, _⟩ := h.rd
  have := shown_len (rd_lay n d p e).1 h.sm
  have := h.wt
  omega
end A

namespace A
open PySem PySem.Spec L2 PyProof.Rows
local macro_rules | `(tactic| walk_at "A.go") => `(tactic| simp only [aSeq, aNext, aSet, aVar, atV_s, onB_b, onI_i, onII_i, onL1_i, onL2_i, it_l, it_t, it_s, it_x, ix_l, ix_t, ix_s, add_i, add_x, eq_i, eq_x, eq_b, is_b, aC, aNil, aCons, aOp, aUn, aTup, aLst, aCB, aNot, aAnd, aOr, aTst, aIfE, aAndV, aOrV, aNotV, aChn, aDrop, aRet, aRetN, aIf, agName, agNil, agCons, agTup, aAsg, aPar, aAug, aFor, aRng1, aRng2, aIter, aLc, aYes,
  aCl, aMt, aMk, aFl, aFst, aNeg, aI2, aI20, aLe, aLt, aGt, aGe, aSub, aMod, aMul, aFdv, aPow, aXor, aShl, aShr, agSub, aoN, aoS, aSl, aRev, aLen, aList, aTupOf, aLRg1, aLRg2, aAbs, aI2N, aMax, aMin, aDm, aAll, aAny, aBM, aApp, aPopAt, aPop, aClear, aRevM, aExt, aRepr, aClD, aLnSt, aIAdd, aBreak, aCont,
  aEnd, startA, List.map_cons, List.map_nil, List.cons_append, List.nil_append, List.length_cons, List.length_nil, List.replicate, List.getElem?_cons_zero, List.getElem?_cons_succ, List.set_cons_zero, List.set_cons_succ, Nat.reduceAdd, Nat.reduceSub, Nat.succ_eq_add_one, Int.reduceAdd, Int.reduceMul,
  reduceIte, Bool.false_eq_true, Bool.not_true, Bool.not_false, ite_true, ite_false])
local macro_rules | `(tactic| walk_at "A.hop") => `(tactic| try simp only [aMtF, aFmt, aJs, aEqO, aNeO, aReprF, aRevT, aIsiT, aInt, aStrI, aEnum, aZip, aMulL, aCount, aAugS, aSetOf, aSrtSet, aSum, aDNew, aDIn, aDIx, aDPut, aLenD, aListD, aBits, aDsp1, aBool, aSorted, wipeA, aSeq, aNext, aSet, aVar, atV_s, onB_b, onI_i, onII_i, onL1_i, onL2_i, it_l, it_t, it_s, it_x, ix_l, ix_t, ix_s, add_i, add_x, eq_i, eq_x, eq_b, is_b, aC, aNil, aCons, aOp, aUn, aTup, aLst, aCB, aNot, aAnd, aOr, aTst, aIfE, aAndV, aOrV, aNotV, aChn, aDrop, aRet, aRetN, aIf, agName, agNil, agCons, agTup, aAsg, aPar, aAug, aFor, aRng1, aRng2, aIter, aLc, aYes,
  aCl, aMt, aMk, aFl, aFst, aNeg, aI2, aI20, aLe, aLt, aGt, aGe, aSub, aMod, aMul, aFdv, aPow, aXor, aShl, aShr, agSub, aoN, aoS, aSl, aRev, aLen, aList, aTupOf, aLRg1, aLRg2, aAbs, aI2N, aMax, aMin, aDm, aAll, aAny, aBM, aApp, aPopAt, aPop, aClear, aRevM, aExt, aRepr, aClD, aLnSt, aIAdd, aBreak, aCont,
  aEnd, startA, List.map_cons, List.map_nil, List.cons_append, List.nil_append, List.length_cons, List.length_nil, List.replicate, List.getElem?_cons_zero, List.getElem?_cons_succ, List.set_cons_zero, List.set_cons_succ, Nat.reduceAdd, Nat.reduceSub, Nat.succ_eq_add_one, Int.reduceAdd, Int.reduceMul,
  reduceIte, Bool.false_eq_true, Bool.not_true, Bool.not_false, ite_true, ite_false])
local macro_rules | `(tactic| walk_at "A.lop") => `(tactic| try simp only [decide_true, decide_false, aMtF, aFmt, aJs, aEqO, aNeO, aReprF, aRevT, aIsiT, aInt, aStrI, aEnum, aZip, aMulL, aCount, aAugS, aSetOf, aSrtSet, aSum, aDNew, aDIn, aDIx, aDPut, aLenD, aListD, aBits, aDsp1, aBool, aSorted, wipeA, aSeq, aNext, aSet, aVar, atV_s, onB_b, onI_i, onII_i, onL1_i, onL2_i, it_l, it_t, it_s, it_x, ix_l, ix_t, ix_s, add_i, add_x, eq_i, eq_x, eq_b, is_b, aC, aNil, aCons, aOp, aUn, aTup, aLst, aCB, aNot, aAnd, aOr, aTst, aIfE, aAndV, aOrV, aNotV, aChn, aDrop, aRet, aRetN, aIf, agName, agNil, agCons, agTup, aAsg, aPar, aAug, aFor, aRng1, aRng2, aIter, aLc, aYes,
  aCl, aMt, aMk, aFl, aFst, aNeg, aI2, aI20, aLe, aLt, aGt, aGe, aSub, aMod, aMul, aFdv, aPow, aXor, aShl, aShr, agSub, aoN, aoS, aSl, aRev, aLen, aList, aTupOf, aLRg1, aLRg2, aAbs, aI2N, aMax, aMin, aDm, aBM, aApp, aPopAt, aPop, aClear, aRevM, aExt, aClD, aLnSt, aIAdd, aBreak, aCont,
  aEnd, startA, List.map_cons, List.map_nil, List.cons_append, List.nil_append, List.length_cons, List.length_nil, List.replicate, List.getElem?_cons_zero, List.getElem?_cons_succ, List.set_cons_zero, List.set_cons_succ, Nat.reduceAdd, Nat.reduceSub, Nat.succ_eq_add_one, Int.reduceAdd, Int.reduceMul,
  reduceIte, Bool.false_eq_true, Bool.not_true, Bool.not_false, ite_true, ite_false])
/-! ## boxes: data -/
def trD (ps : List (Int × Bool)) : List (Key × D) := ps.map fun p => (.inl p.1, .bl p.2)
def prB (p : Int × Bool) : D := .tup [.int p.1, .bl p.2]
def boxF (y t : Addr) : List (Str × D) := [("own_yard", .own y), ("truths", .own t)]
def Asks (m : Nat) (ps : List (Int × Bool)) : Prop := (ps.map (·.1)).Nodup ∧ ∀ p ∈ ps, InR m p.1
def IsB (K : PySem.W.Frag) (S : Sto) (b y t : Addr) (u : Yd) (ps : List (Int × Bool)) : Prop := S b = some (.ins (He.ga K "Box") (boxF y t)) ∧ S t = some (.dct (trD ps)) ∧ IsY K S y u ∧ Asks u.len ps
section
variable {K : PySem.W.Frag} {S S' : Sto} {b y t : Addr} {u : Yd} {ps : List (Int × Bool)}
theorem IsB.ins (h : IsB K S b y t u ps) : insOf S (.own b) = some (He.ga K "Box", boxF y t) := by
  unfold insOf
  simp only [h.1]
theorem IsB.dct (h : IsB K S b y t u ps) : dctOf S (.own t) = some (trD ps) := dctOf_own h.2.1
theorem IsB.sub (h : IsB K S b y t u ps) (s : Sub S S') : IsB K S' b y t u ps := ⟨s _ _ h.1, s _ _ h.2.1, h.2.2.1.sub s, h.2.2.2⟩
theorem IsB.bt (h : IsB K S b y t u ps) : b ≠ t := by rintro rfl; have := h.2.1; rw [h.1] at this; cases this
theorem IsB.yt (h : IsB K S b y t u ps) : y ≠ t := by rintro rfl; have := h.2.1; rw [h.2.2.1.1] at this; cases this
/-- one more answer -/
theorem IsB.more {i : Int} {a : Bool} (h : IsB K S b y t u ps) (hi : InR u.len i) (n : ∀ p ∈ ps, p.1 ≠ i) : IsB K (put S t (.dct (trD (ps ++ [(i, a)])))) b y t u (ps ++ [(i, a)]) := by
  refine ⟨by rw [put_ne h.bt]; exact h.1, put_same, ⟨by rw [put_ne h.yt]; exact h.2.2.1.1, h.2.2.1.2⟩, ?_, fun p hp => ?_⟩
  · rw [List.map_append, List.nodup_append]
    refine ⟨h.2.2.2.1, by simp, fun a ha c hc => ?_⟩
    rw [List.map_singleton, List.mem_singleton] at hc
    subst hc
    obtain ⟨p, hp, rfl⟩ := List.mem_map.mp ha
    exact n p hp
  · rcases List.mem_append.mp hp with hp | hp
    · exact h.2.2.2.2 p hp
    · rw [List.mem_singleton.mp hp]; exact hi
end
end A

namespace A
open PySem PySem.Spec L2 PyProof.Rows
local macro_rules | `(tactic| walk_at "A.go") => `(tactic| simp only [aSeq, aNext, aSet, aVar, atV_s, onB_b, onI_i, onII_i, onL1_i, onL2_i, it_l, it_t, it_s, it_x, ix_l, ix_t, ix_s, add_i, add_x, eq_i, eq_x, eq_b, is_b, aC, aNil, aCons, aOp, aUn, aTup, aLst, aCB, aNot, aAnd, aOr, aTst, aIfE, aAndV, aOrV, aNotV, aChn, aDrop, aRet, aRetN, aIf, agName, agNil, agCons, agTup, aAsg, aPar, aAug, aFor, aRng1, aRng2, aIter, aLc, aYes,
  aCl, aMt, aMk, aFl, aFst, aNeg, aI2, aI20, aLe, aLt, aGt, aGe, aSub, aMod, aMul, aFdv, aPow, aXor, aShl, aShr, agSub, aoN, aoS, aSl, aRev, aLen, aList, aTupOf, aLRg1, aLRg2, aAbs, aI2N, aMax, aMin, aDm, aAll, aAny, aBM, aApp, aPopAt, aPop, aClear, aRevM, aExt, aRepr, aClD, aLnSt, aIAdd, aBreak, aCont,
  aEnd, startA, List.map_cons, List.map_nil, List.cons_append, List.nil_append, List.length_cons, List.length_nil, List.replicate, List.getElem?_cons_zero, List.getElem?_cons_succ, List.set_cons_zero, List.set_cons_succ, Nat.reduceAdd, Nat.reduceSub, Nat.succ_eq_add_one, Int.reduceAdd, Int.reduceMul,
  reduceIte, Bool.false_eq_true, Bool.not_true, Bool.not_false, ite_true, ite_false])
local macro_rules | `(tactic| walk_at "A.hop") => `(tactic| try simp only [aMtF, aFmt, aJs, aEqO, aNeO, aReprF, aRevT, aIsiT, aInt, aStrI, aEnum, aZip, aMulL, aCount, aAugS, aSetOf, aSrtSet, aSum, aDNew, aDIn, aDIx, aDPut, aLenD, aListD, aBits, aDsp1, aBool, aSorted, wipeA, aSeq, aNext, aSet, aVar, atV_s, onB_b, onI_i, onII_i, onL1_i, onL2_i, it_l, it_t, it_s, it_x, ix_l, ix_t, ix_s, add_i, add_x, eq_i, eq_x, eq_b, is_b, aC, aNil, aCons, aOp, aUn, aTup, aLst, aCB, aNot, aAnd, aOr, aTst, aIfE, aAndV, aOrV, aNotV, aChn, aDrop, aRet, aRetN, aIf, agName, agNil, agCons, agTup, aAsg, aPar, aAug, aFor, aRng1, aRng2, aIter, aLc, aYes,
  aCl, aMt, aMk, aFl, aFst, aNeg, aI2, aI20, aLe, aLt, aGt, aGe, aSub, aMod, aMul, aFdv, aPow, aXor, aShl, aShr, agSub, aoN, aoS, aSl, aRev, aLen, aList, aTupOf, aLRg1, aLRg2, aAbs, aI2N, aMax, aMin, aDm, aAll, aAny, aBM, aApp, aPopAt, aPop, aClear, aRevM, aExt, aRepr, aClD, aLnSt, aIAdd, aBreak, aCont,
  aEnd, startA, List.map_cons, List.map_nil, List.cons_append, List.nil_append, List.length_cons, List.length_nil, List.replicate, List.getElem?_cons_zero, List.getElem?_cons_succ, List.set_cons_zero, List.set_cons_succ, Nat.reduceAdd, Nat.reduceSub, Nat.succ_eq_add_one, Int.reduceAdd, Int.reduceMul,
  reduceIte, Bool.false_eq_true, Bool.not_true, Bool.not_false, ite_true, ite_false])
local macro_rules | `(tactic| walk_at "A.lop") => `(tactic| try simp only [decide_true, decide_false, aMtF, aFmt, aJs, aEqO, aNeO, aReprF, aRevT, aIsiT, aInt, aStrI, aEnum, aZip, aMulL, aCount, aAugS, aSetOf, aSrtSet, aSum, aDNew, aDIn, aDIx, aDPut, aLenD, aListD, aBits, aDsp1, aBool, aSorted, wipeA, aSeq, aNext, aSet, aVar, atV_s, onB_b, onI_i, onII_i, onL1_i, onL2_i, it_l, it_t, it_s, it_x, ix_l, ix_t, ix_s, add_i, add_x, eq_i, eq_x, eq_b, is_b, aC, aNil, aCons, aOp, aUn, aTup, aLst, aCB, aNot, aAnd, aOr, aTst, aIfE, aAndV, aOrV, aNotV, aChn, aDrop, aRet, aRetN, aIf, agName, agNil, agCons, agTup, aAsg, aPar, aAug, aFor, aRng1, aRng2, aIter, aLc, aYes,
  aCl, aMt, aMk, aFl, aFst, aNeg, aI2, aI20, aLe, aLt, aGt, aGe, aSub, aMod, aMul, aFdv, aPow, aXor, aShl, aShr, agSub, aoN, aoS, aSl, aRev, aLen, aList, aTupOf, aLRg1, aLRg2, aAbs, aI2N, aMax, aMin, aDm, aBM, aApp, aPopAt, aPop, aClear, aRevM, aExt, aClD, aLnSt, aIAdd, aBreak, aCont,
  aEnd, startA, List.map_cons, List.map_nil, List.cons_append, List.nil_append, List.length_cons, List.length_nil, List.replicate, List.getElem?_cons_zero, List.getElem?_cons_succ, List.set_cons_zero, List.set_cons_succ, Nat.reduceAdd, Nat.reduceSub, Nat.succ_eq_add_one, Int.reduceAdd, Int.reduceMul,
  reduceIte, Bool.false_eq_true, Bool.not_true, Bool.not_false, ite_true, ite_false])
end A

namespace A
open PySem PySem.Spec L2 PyProof.Rows
local macro_rules | `(tactic| walk_at "A.go") => `(tactic| simp only [aSeq, aNext, aSet, aVar, atV_s, onB_b, onI_i, onII_i, onL1_i, onL2_i, it_l, it_t, it_s, it_x, ix_l, ix_t, ix_s, add_i, add_x, eq_i, eq_x, eq_b, is_b, aC, aNil, aCons, aOp, aUn, aTup, aLst, aCB, aNot, aAnd, aOr, aTst, aIfE, aAndV, aOrV, aNotV, aChn, aDrop, aRet, aRetN, aIf, agName, agNil, agCons, agTup, aAsg, aPar, aAug, aFor, aRng1, aRng2, aIter, aLc, aYes,
  aCl, aMt, aMk, aFl, aFst, aNeg, aI2, aI20, aLe, aLt, aGt, aGe, aSub, aMod, aMul, aFdv, aPow, aXor, aShl, aShr, agSub, aoN, aoS, aSl, aRev, aLen, aList, aTupOf, aLRg1, aLRg2, aAbs, aI2N, aMax, aMin, aDm, aAll, aAny, aBM, aApp, aPopAt, aPop, aClear, aRevM, aExt, aRepr, aClD, aLnSt, aIAdd, aBreak, aCont,
  aEnd, startA, List.map_cons, List.map_nil, List.cons_append, List.nil_append, List.length_cons, List.length_nil, List.replicate, List.getElem?_cons_zero, List.getElem?_cons_succ, List.set_cons_zero, List.set_cons_succ, Nat.reduceAdd, Nat.reduceSub, Nat.succ_eq_add_one, Int.reduceAdd, Int.reduceMul,
  reduceIte, Bool.false_eq_true, Bool.not_true, Bool.not_false, ite_true, ite_false])
local macro_rules | `(tactic| walk_at "A.hop") => `(tactic| try simp only [aMtF, aFmt, aJs, aEqO, aNeO, aReprF, aRevT, aIsiT, aInt, aStrI, aEnum, aZip, aMulL, aCount, aAugS, aSetOf, aSrtSet, aSum, aDNew, aDIn, aDIx, aDPut, aLenD, aListD, aBits, aDsp1, aBool, aSorted, wipeA, aSeq, aNext, aSet, aVar, atV_s, onB_b, onI_i, onII_i, onL1_i, onL2_i, it_l, it_t, it_s, it_x, ix_l, ix_t, ix_s, add_i, add_x, eq_i, eq_x, eq_b, is_b, aC, aNil, aCons, aOp, aUn, aTup, aLst, aCB, aNot, aAnd, aOr, aTst, aIfE, aAndV, aOrV, aNotV, aChn, aDrop, aRet, aRetN, aIf, agName, agNil, agCons, agTup, aAsg, aPar, aAug, aFor, aRng1, aRng2, aIter, aLc, aYes,
  aCl, aMt, aMk, aFl, aFst, aNeg, aI2, aI20, aLe, aLt, aGt, aGe, aSub, aMod, aMul, aFdv, aPow, aXor, aShl, aShr, agSub, aoN, aoS, aSl, aRev, aLen, aList, aTupOf, aLRg1, aLRg2, aAbs, aI2N, aMax, aMin, aDm, aAll, aAny, aBM, aApp, aPopAt, aPop, aClear, aRevM, aExt, aRepr, aClD, aLnSt, aIAdd, aBreak, aCont,
  aEnd, startA, List.map_cons, List.map_nil, List.cons_append, List.nil_append, List.length_cons, List.length_nil, List.replicate, List.getElem?_cons_zero, List.getElem?_cons_succ, List.set_cons_zero, List.set_cons_succ, Nat.reduceAdd, Nat.reduceSub, Nat.succ_eq_add_one, Int.reduceAdd, Int.reduceMul,
  reduceIte, Bool.false_eq_true, Bool.not_true, Bool.not_false, ite_true, ite_false])
local macro_rules | `(tactic| walk_at "A.lop") => `(tactic| try simp only [decide_true, decide_false, aMtF, aFmt, aJs, aEqO, aNeO, aReprF, aRevT, aIsiT, aInt, aStrI, aEnum, aZip, aMulL, aCount, aAugS, aSetOf, aSrtSet, aSum, aDNew, aDIn, aDIx, aDPut, aLenD, aListD, aBits, aDsp1, aBool, aSorted, wipeA, aSeq, aNext, aSet, aVar, atV_s, onB_b, onI_i, onII_i, onL1_i, onL2_i, it_l, it_t, it_s, it_x, ix_l, ix_t, ix_s, add_i, add_x, eq_i, eq_x, eq_b, is_b, aC, aNil, aCons, aOp, aUn, aTup, aLst, aCB, aNot, aAnd, aOr, aTst, aIfE, aAndV, aOrV, aNotV, aChn, aDrop, aRet, aRetN, aIf, agName, agNil, agCons, agTup, aAsg, aPar, aAug, aFor, aRng1, aRng2, aIter, aLc, aYes,
  aCl, aMt, aMk, aFl, aFst, aNeg, aI2, aI20, aLe, aLt, aGt, aGe, aSub, aMod, aMul, aFdv, aPow, aXor, aShl, aShr, agSub, aoN, aoS, aSl, aRev, aLen, aList, aTupOf, aLRg1, aLRg2, aAbs, aI2N, aMax, aMin, aDm, aBM, aApp, aPopAt, aPop, aClear, aRevM, aExt, aClD, aLnSt, aIAdd, aBreak, aCont,
  aEnd, startA, List.map_cons, List.map_nil, List.cons_append, List.nil_append, List.length_cons, List.length_nil, List.replicate, List.getElem?_cons_zero, List.getElem?_cons_succ, List.set_cons_zero, List.set_cons_succ, Nat.reduceAdd, Nat.reduceSub, Nat.succ_eq_add_one, Int.reduceAdd, Int.reduceMul,
  reduceIte, Bool.false_eq_true, Bool.not_true, Bool.not_false, ite_true, ite_false])
local macro_rules | `(tactic| walk_at "A.lop") => `(tactic| try simp only [aDGet, aListIt, aLcIt, aDictP, aDictD, aRem, decide_true, decide_false, aMtF, aFmt, aJs, aEqO, aNeO, aReprF, aRevT, aIsiT, aInt, aStrI, aEnum, aZip, aMulL, aCount, aAugS, aSetOf, aSrtSet, aSum, aDNew, aDIn, aDIx, aDPut, aLenD, aListD, aBits, aDsp1, aBool, aSorted, wipeA, aSeq, aNext, aSet, aVar, atV_s, onB_b, onI_i, onII_i, onL1_i, onL2_i, it_l, it_t, it_s, it_x, ix_l, ix_t, ix_s, add_i, add_x, eq_i, eq_x, eq_b, is_b, aC, aNil, aCons, aOp, aUn, aTup, aLst, aCB, aNot, aAnd, aOr, aTst, aIfE, aAndV, aOrV, aNotV, aChn, aDrop, aRet, aRetN, aIf, agName, agNil, agCons, agTup, aAsg, aPar, aAug, aFor, aRng1, aRng2, aIter, aLc, aYes,
  aCl, aMt, aMk, aFl, aFst, aNeg, aI2, aI20, aLe, aLt, aGt, aGe, aSub, aMod, aMul, aFdv, aPow, aXor, aShl, aShr, agSub, aoN, aoS, aSl, aRev, aLen, aList, aTupOf, aLRg1, aLRg2, aAbs, aI2N, aMax, aMin, aDm, aBM, aApp, aPopAt, aPop, aClear, aRevM, aExt, aClD, aLnSt, aIAdd, aBreak, aCont,
  aEnd, startA, List.map_cons, List.map_nil, List.cons_append, List.nil_append, List.length_cons, List.length_nil, List.replicate, List.getElem?_cons_zero, List.getElem?_cons_succ, List.set_cons_zero, List.set_cons_succ, Nat.reduceAdd, Nat.reduceSub, Nat.succ_eq_add_one, Int.reduceAdd, Int.reduceMul,
  reduceIte, Bool.false_eq_true, Bool.not_true, Bool.not_false, ite_true, ite_false])
end A

/-! ## a table laid anew always has room: small hashes, small tables -/
namespace A
open PySem L2
local macro_rules | `(tactic| walk_at "A.go") => `(tactic| simp only [aSeq, aNext, aSet, aVar, atV_s, onB_b, onI_i, onII_i, onL1_i, onL2_i, it_l, it_t, it_s, it_x, ix_l, ix_t, ix_s, add_i, add_x, eq_i, eq_x, eq_b, is_b, aC, aNil, aCons, aOp, aUn, aTup, aLst, aCB, aNot, aAnd, aOr, aTst, aIfE, aAndV, aOrV, aNotV, aChn, aDrop, aRet, aRetN, aIf, agName, agNil, agCons, agTup, aAsg, aPar, aAug, aFor, aRng1, aRng2, aIter, aLc, aYes,
  aCl, aMt, aMk, aFl, aFst, aNeg, aI2, aI20, aLe, aLt, aGt, aGe, aSub, aMod, aMul, aFdv, aPow, aXor, aShl, aShr, agSub, aoN, aoS, aSl, aRev, aLen, aList, aTupOf, aLRg1, aLRg2, aAbs, aI2N, aMax, aMin, aDm, aAll, aAny, aBM, aApp, aPopAt, aPop, aClear, aRevM, aExt, aRepr, aClD, aLnSt, aIAdd, aBreak, aCont,
  aEnd, startA, List.map_cons, List.map_nil, List.cons_append, List.nil_append, List.length_cons, List.length_nil, List.replicate, List.getElem?_cons_zero, List.getElem?_cons_succ, List.set_cons_zero, List.set_cons_succ, Nat.reduceAdd, Nat.reduceSub, Nat.succ_eq_add_one, Int.reduceAdd, Int.reduceMul,
  reduceIte, Bool.false_eq_true, Bool.not_true, Bool.not_false, ite_true, ite_false])
local macro_rules | `(tactic| walk_at "A.hop") => `(tactic| try simp only [aMtF, aFmt, aJs, aEqO, aNeO, aReprF, aRevT, aIsiT, aInt, aStrI, aEnum, aZip, aMulL, aCount, aAugS, aSetOf, aSrtSet, aSum, aDNew, aDIn, aDIx, aDPut, aLenD, aListD, aBits, aDsp1, aBool, aSorted, wipeA, aSeq, aNext, aSet, aVar, atV_s, onB_b, onI_i, onII_i, onL1_i, onL2_i, it_l, it_t, it_s, it_x, ix_l, ix_t, ix_s, add_i, add_x, eq_i, eq_x, eq_b, is_b, aC, aNil, aCons, aOp, aUn, aTup, aLst, aCB, aNot, aAnd, aOr, aTst, aIfE, aAndV, aOrV, aNotV, aChn, aDrop, aRet, aRetN, aIf, agName, agNil, agCons, agTup, aAsg, aPar, aAug, aFor, aRng1, aRng2, aIter, aLc, aYes,
  aCl, aMt, aMk, aFl, aFst, aNeg, aI2, aI20, aLe, aLt, aGt, aGe, aSub, aMod, aMul, aFdv, aPow, aXor, aShl, aShr, agSub, aoN, aoS, aSl, aRev, aLen, aList, aTupOf, aLRg1, aLRg2, aAbs, aI2N, aMax, aMin, aDm, aAll, aAny, aBM, aApp, aPopAt, aPop, aClear, aRevM, aExt, aRepr, aClD, aLnSt, aIAdd, aBreak, aCont,
  aEnd, startA, List.map_cons, List.map_nil, List.cons_append, List.nil_append, List.length_cons, List.length_nil, List.replicate, List.getElem?_cons_zero, List.getElem?_cons_succ, List.set_cons_zero, List.set_cons_succ, Nat.reduceAdd, Nat.reduceSub, Nat.succ_eq_add_one, Int.reduceAdd, Int.reduceMul,
  reduceIte, Bool.false_eq_true, Bool.not_true, Bool.not_false, ite_true, ite_false])
local macro_rules | `(tactic| walk_at "A.lop") => `(tactic| try simp only [decide_true, decide_false, aMtF, aFmt, aJs, aEqO, aNeO, aReprF, aRevT, aIsiT, aInt, aStrI, aEnum, aZip, aMulL, aCount, aAugS, aSetOf, aSrtSet, aSum, aDNew, aDIn, aDIx, aDPut, aLenD, aListD, aBits, aDsp1, aBool, aSorted, wipeA, aSeq, aNext, aSet, aVar, atV_s, onB_b, onI_i, onII_i, onL1_i, onL2_i, it_l, it_t, it_s, it_x, ix_l, ix_t, ix_s, add_i, add_x, eq_i, eq_x, eq_b, is_b, aC, aNil, aCons, aOp, aUn, aTup, aLst, aCB, aNot, aAnd, aOr, aTst, aIfE, aAndV, aOrV, aNotV, aChn, aDrop, aRet, aRetN, aIf, agName, agNil, agCons, agTup, aAsg, aPar, aAug, aFor, aRng1, aRng2, aIter, aLc, aYes,
  aCl, aMt, aMk, aFl, aFst, aNeg, aI2, aI20, aLe, aLt, aGt, aGe, aSub, aMod, aMul, aFdv, aPow, aXor, aShl, aShr, agSub, aoN, aoS, aSl, aRev, aLen, aList, aTupOf, aLRg1, aLRg2, aAbs, aI2N, aMax, aMin, aDm, aBM, aApp, aPopAt, aPop, aClear, aRevM, aExt, aClD, aLnSt, aIAdd, aBreak, aCont,
  aEnd, startA, List.map_cons, List.map_nil, List.cons_append, List.nil_append, List.length_cons, List.length_nil, List.replicate, List.getElem?_cons_zero, List.getElem?_cons_succ, List.set_cons_zero, List.set_cons_succ, Nat.reduceAdd, Nat.reduceSub, Nat.succ_eq_add_one, Int.reduceAdd, Int.reduceMul,
  reduceIte, Bool.false_eq_true, Bool.not_true, Bool.not_false, ite_true, ite_false])
/-! ### the orbit of the probes -/
def lcg (m : Nat) : Nat → Nat → Nat
  | 0, i => i
  | k + 1, i => lcg m k ((i * 5 + 1) % (m + 1))
def orb (m : Nat) : Nat → Nat → Nat
  | 0, _ => 0
  | f + 1, i => (1 <<< i) ||| orb m f ((i * 5 + 1) % (m + 1))
theorem orb_bit {m t : Nat} : ∀ (f i : Nat), (orb m f i).testBit t = true → ∃ k, k < f ∧ lcg m k i = t
  | 0, _, h => by
    unfold orb at h
    rw [Nat.zero_testBit] at h
    cases h
  | f + 1, i, h => by
    unfold orb at h
    rw [Nat.testBit_or, Nat.one_shiftLeft, Nat.testBit_two_pow, Bool.or_eq_true] at h
    rcases h with h | h
    · exact ⟨0, by omega, of_decide_eq_true h⟩
    · obtain ⟨k, h1, h2⟩ := orb_bit f _ h
      exact ⟨k + 1, by omega, h2⟩
/-- from each place the probes come by all places -/
def covB (m : Nat) : Bool := (List.range (m + 1)).all fun i => orb m (m + 15) i == 2 ^ (m + 1) - 1
theorem cov_of {m : Nat} (h : covB m = true) {i t : Nat} (hi : i ≤ m) (ht : t ≤ m) : ∃ k, k < SetTable.turns m ∧ lcg m k i = t := by
  have h1 := List.all_eq_true.mp h i (List.mem_range.mpr (by omega))
  rw [beq_iff_eq] at h1
  refine orb_bit (m + 15) i ?_
  rw [h1, Nat.testBit_two_pow_sub_one]
  exact decide_eq_true (by omega)
theorem free_none {owner : Array (Option Nat)} {m : Nat} : ∀ (f i p : Nat), p < 32 → SetTable.layClean.free m owner f i p = none → ∀ k, k < f → (owner.getD (lcg m k i) (some 0)).isNone = false
  | 0, _, _, _, _, k, hk => absurd hk (Nat.not_lt_zero k)
  | f + 1, i, p, hp, h, k, hk => by
    unfold SetTable.layClean.free at h
    split at h
    · cases h
    · rename_i hf
      have hq : p / 32 = 0 := by omega
      simp only [SetTable.leap, hq, Nat.add_zero] at h
      cases k with
      | zero =>
        have z := List.find?_eq_none.mp hf 0 (List.mem_range.mpr (by
          have : i ≤ SetTable.runEnd m i := by
            unfold SetTable.runEnd
            split <;> omega
          omega))
        simp only [Nat.add_zero, Bool.not_eq_true] at z
        exact z
      | succ k =>
        exact free_none f _ 0 (by omega) h k (by omega)
theorem free_some {owner : Array (Option Nat)} {m j : Nat} : ∀ (f i p : Nat), SetTable.layClean.free m owner f i p = some j → (owner.getD j (some 0)).isNone = true
  | 0, _, _, h => by
    unfold SetTable.layClean.free at h
    cases h
  | f + 1, i, p, h => by
    unfold SetTable.layClean.free at h
    split at h
    · rename_i k hf
      injection h with e
      subst e
      have z := List.find?_some (p := fun k => (owner.getD (i + k) (some 0)).isNone) hf
      exact z
    · exact free_some f _ _ h
theorem set_perm : ∀ (l : List (Option Nat)) (j k : Nat), l[j]? = some none → ((l.set j (some k)).filterMap id).Perm (k :: l.filterMap id)
  | [], _, _, h => by cases h
  | x :: r, 0, k, h => by
    have e : x = none := by simpa using h
    subst e
    exact .refl _
  | x :: r, j + 1, k, h => by
    have z := set_perm r j k (by simpa using h)
    cases x with
    | none => exact z
    | some y => exact (z.cons y).trans (List.Perm.swap k y _)
theorem getD_none {owner : Array (Option Nat)} {j : Nat} (h : (owner.getD j (some 0)).isNone = true) : owner.toList[j]? = some none ∧ j < owner.size := by
  by_cases lt : j < owner.size
  · have e : owner.getD j (some 0) = owner[j] := by simp [Array.getD, lt]
    rw [e] at h
    refine ⟨?_, lt⟩
    rw [Array.getElem?_toList, Array.getElem?_eq_getElem lt]
    exact congrArg some (Option.isNone_iff_eq_none.mp h)
  · have e : owner.getD j (some 0) = some 0 := by simp [Array.getD, lt]
    rw [e] at h
    cases h
abbrev layF (m : Nat) : Option (Array (Option Nat) × Nat) → Int → Option (Array (Option Nat) × Nat) := fun acc h => do
    let (owner, k) ← acc
    let j ← SetTable.layClean.free m owner (SetTable.turns m) (SetTable.bits h % (m + 1)) (SetTable.bits h)
    pure (owner.setIfInBounds j (some k), k + 1)
theorem lay_fold {m : Nat} (cv : covB m = true) : ∀ (l : List Int) (owner : Array (Option Nat)) (k : Nat), (∀ h ∈ l, SetTable.bits h < 32) → owner.size = m + 1 → (owner.toList.filterMap id).Perm (List.range k) → k + l.length ≤ m + 1 →
    ∃ owner', l.foldl (layF m) (some (owner, k)) = some (owner', k + l.length) ∧ owner'.size = m + 1 ∧ (owner'.toList.filterMap id).Perm (List.range (k + l.length))
  | [], owner, k, _, hs, hp, _ => ⟨owner, rfl, hs, hp⟩
  | h :: r, owner, k, hb, hs, hp, hl => by
    rw [List.length_cons] at hl
    have hb1 := hb h List.mem_cons_self
    have ex : ∃ j, SetTable.layClean.free m owner (SetTable.turns m) (SetTable.bits h % (m + 1)) (SetTable.bits h) = some j := by
      cases e : SetTable.layClean.free m owner (SetTable.turns m) (SetTable.bits h % (m + 1)) (SetTable.bits h) with
      | some j => exact ⟨j, rfl⟩
      | none =>
        exfalso
        have fn := free_none _ _ _ hb1 e
        have all : ∀ x ∈ owner.toList, (id x).isSome = true := by
          intro x hx
          obtain ⟨t, ht, e2⟩ := List.getElem_of_mem hx
          rw [Array.length_toList] at ht
          obtain ⟨q, hq, e3⟩ := cov_of cv (i := SetTable.bits h % (m + 1)) (t := t) (Nat.le_of_lt_succ (Nat.mod_lt _ (Nat.succ_pos m))) (by omega)
          have z := fn q hq
          rw [e3] at z
          have e4 : owner.getD t (some 0) = x := by
            rw [← e2]
            simp [Array.getD, ht]
          rw [e4] at z
          cases x with
          | none => cases z
          | some y => rfl
        have ln := List.filterMap_length_eq_length.mpr all
        have l2 := hp.length_eq
        rw [List.length_range] at l2
        have l3 : owner.size = k := by rw [← Array.length_toList, ← ln, l2]
        omega
    obtain ⟨j, ej⟩ := ex
    obtain ⟨g1, g2⟩ := getD_none (free_some _ _ _ ej)
    have p2 := set_perm owner.toList j k g1
    have hp2 : ((owner.setIfInBounds j (some k)).toList.filterMap id).Perm (List.range (k + 1)) := by
      rw [Array.toList_setIfInBounds]
      refine p2.trans ((hp.cons k).trans ?_)
      rw [List.range_succ]
      exact (List.perm_append_singleton _ _).symm
    obtain ⟨o2, z1, z2, z3⟩ := lay_fold cv r (owner.setIfInBounds j (some k)) (k + 1) (fun x hx => hb x (List.mem_cons_of_mem _ hx)) (by rw [Array.size_setIfInBounds]; exact hs) hp2 (by omega)
    refine ⟨o2, ?_, z2, ?_⟩
    · rw [List.foldl_cons]
      have e1 : layF m (some (owner, k)) h = some (owner.setIfInBounds j (some k), k + 1) := by
        show (do let j ← SetTable.layClean.free m owner (SetTable.turns m) (SetTable.bits h % (m + 1)) (SetTable.bits h)
                 pure (owner.setIfInBounds j (some k), k + 1)) = _
        rw [ej]
        rfl
      rw [e1, z1, List.length_cons]
      congr 2
      omega
    · rw [List.length_cons, show k + (r.length + 1) = k + 1 + r.length by omega]
      exact z3
theorem live_fst (g : Nat → Option Nat) : ∀ l : List Nat, ((l.filterMap fun j => (g j).map (j, ·)).map (·.1)) = l.filter fun j => (g j).isSome
  | [] => rfl
  | j :: r => by
    rw [List.filterMap_cons, List.filter_cons]
    cases e : g j with
    | none => simpa [e] using live_fst g r
    | some y => simpa [e] using live_fst g r
theorem live_snd (g : Nat → Option Nat) : ∀ l : List Nat, ((l.filterMap fun j => (g j).map (j, ·)).map (·.2)) = l.filterMap g
  | [] => rfl
  | j :: r => by
    rw [List.filterMap_cons, List.filterMap_cons]
    cases e : g j with
    | none => simpa [e] using live_snd g r
    | some y => simpa [e] using live_snd g r
theorem range_getD (owner : Array (Option Nat)) (n : Nat) (h : owner.size = n) : ((List.range n).filterMap fun j => owner.getD j none) = owner.toList.filterMap id := by
  have e : owner.toList = (List.range n).map fun j => owner.getD j none := by
    refine List.ext_getElem (by simp [h]) fun i h1 h2 => ?_
    have hi : i < owner.size := by simpa using h1
    simp [Array.getD, hi]
  rw [e, List.filterMap_map]
  rfl
theorem laid_ok {m : Nat} (cv : covB m = true) {fg mv : Nat} {led pl : Bool} {hs : Array Int} (hb : ∀ h ∈ hs.toList, SetTable.bits h < 32) (hn : hs.size ≤ m) :
    ∃ t order, SetTable.laid m fg mv led pl hs = some (t, order) ∧ order.toList.Perm (List.range hs.size) ∧ Ris t.place.toList ∧ t.place.size = hs.size ∧ t.dummies = #[] ∧ t.mask = m ∧ t.led = led := by
  obtain ⟨o, h1, h2, h3⟩ := lay_fold cv hs.toList (Array.replicate (m + 1) none) 0 hb (by simp) (by
    rw [Array.toList_replicate]
    have : ∀ n : Nat, (List.replicate n (none : Option Nat)).filterMap id = [] := fun n => by
      induction n with
      | zero => rfl
      | succ n ih => rw [List.replicate_succ, List.filterMap_cons]; exact ih
    rw [this]
    exact .refl _) (by rw [Array.length_toList]; omega)
  have e : SetTable.layClean m hs = some o := by
    unfold SetTable.layClean
    rw [← Array.foldl_toList]
    have z : List.foldl (layF m) (some (Array.replicate (m + 1) none, 0)) hs.toList = some (o, 0 + hs.toList.length) := h1
    exact congrArg (Option.map (·.1)) z
  rw [Array.length_toList, Nat.zero_add] at h3
  refine ⟨_, _, by unfold SetTable.laid; rw [e]; rfl, ?_, ?_, ?_, rfl, rfl, rfl⟩
  · show (List.map (fun z : Nat × Nat => z.2) ((List.range (m + 1)).filterMap fun j => (o.getD j none).map (j, ·))).Perm _
    rw [live_snd, range_getD o (m + 1) h2]
    exact h3
  · show Ris (List.map (fun z : Nat × Nat => z.1) ((List.range (m + 1)).filterMap fun j => (o.getD j none).map (j, ·)))
    rw [live_fst]
    exact List.Pairwise.filter _ (List.pairwise_lt_range)
  · show (List.map (fun z : Nat × Nat => z.1) ((List.range (m + 1)).filterMap fun j => (o.getD j none).map (j, ·))).toArray.size = _
    have a := h3.length_eq
    rw [List.length_range, ← range_getD o (m + 1) h2, ← live_snd, List.length_map] at a
    simpa using a
theorem es_perm {es : Array (Int × Value)} {order : Array Nat} (h : order.toList.Perm (List.range es.size)) : (order.filterMap (es[·]?)).toList.Perm es.toList := by
  rw [Array.toList_filterMap]
  exact (h.filterMap _).trans (by rw [filterMap_getElem?_range])
/-- the mask of a copy of n things -/
def cpM (n : Nat) : Nat := if n * 5 ≥ 21 then SetTable.sizeAbove (n * 2) - 1 else 7
def cpB : Bool := (List.range 32).all fun n => covB (cpM n) && decide (n ≤ cpM n) && decide (n / 4 ≤ cpM n / 4)
theorem cpB_ok : cpB = true := by decide +kernel
theorem cp_ok {n : Nat} (h : n < 32) : covB (cpM n) = true ∧ n ≤ cpM n := by
  have z := List.all_eq_true.mp cpB_ok n (List.mem_range.mpr h)
  simp only [Bool.and_eq_true, decide_eq_true_eq] at z
  exact ⟨z.1.1, z.1.2⟩
end A

/-! ## sets of ints: walked unseen, discarded from, copied; less another, and another -/
namespace A
open PySem PySem.Spec L2 PyProof.Rows
local macro_rules | `(tactic| walk_at "A.go") => `(tactic| simp only [aSeq, aNext, aSet, aVar, atV_s, onB_b, onI_i, onII_i, onL1_i, onL2_i, it_l, it_t, it_s, it_x, ix_l, ix_t, ix_s, add_i, add_x, eq_i, eq_x, eq_b, is_b, aC, aNil, aCons, aOp, aUn, aTup, aLst, aCB, aNot, aAnd, aOr, aTst, aIfE, aAndV, aOrV, aNotV, aChn, aDrop, aRet, aRetN, aIf, agName, agNil, agCons, agTup, aAsg, aPar, aAug, aFor, aRng1, aRng2, aIter, aLc, aYes,
  aCl, aMt, aMk, aFl, aFst, aNeg, aI2, aI20, aLe, aLt, aGt, aGe, aSub, aMod, aMul, aFdv, aPow, aXor, aShl, aShr, agSub, aoN, aoS, aSl, aRev, aLen, aList, aTupOf, aLRg1, aLRg2, aAbs, aI2N, aMax, aMin, aDm, aAll, aAny, aBM, aApp, aPopAt, aPop, aClear, aRevM, aExt, aRepr, aClD, aLnSt, aIAdd, aBreak, aCont,
  aEnd, startA, List.map_cons, List.map_nil, List.cons_append, List.nil_append, List.length_cons, List.length_nil, List.replicate, List.getElem?_cons_zero, List.getElem?_cons_succ, List.set_cons_zero, List.set_cons_succ, Nat.reduceAdd, Nat.reduceSub, Nat.succ_eq_add_one, Int.reduceAdd, Int.reduceMul,
  reduceIte, Bool.false_eq_true, Bool.not_true, Bool.not_false, ite_true, ite_false])
local macro_rules | `(tactic| walk_at "A.hop") => `(tactic| try simp only [aMtF, aFmt, aJs, aEqO, aNeO, aReprF, aRevT, aIsiT, aInt, aStrI, aEnum, aZip, aMulL, aCount, aAugS, aSetOf, aSrtSet, aSum, aDNew, aDIn, aDIx, aDPut, aLenD, aListD, aBits, aDsp1, aBool, aSorted, wipeA, aSeq, aNext, aSet, aVar, atV_s, onB_b, onI_i, onII_i, onL1_i, onL2_i, it_l, it_t, it_s, it_x, ix_l, ix_t, ix_s, add_i, add_x, eq_i, eq_x, eq_b, is_b, aC, aNil, aCons, aOp, aUn, aTup, aLst, aCB, aNot, aAnd, aOr, aTst, aIfE, aAndV, aOrV, aNotV, aChn, aDrop, aRet, aRetN, aIf, agName, agNil, agCons, agTup, aAsg, aPar, aAug, aFor, aRng1, aRng2, aIter, aLc, aYes,
  aCl, aMt, aMk, aFl, aFst, aNeg, aI2, aI20, aLe, aLt, aGt, aGe, aSub, aMod, aMul, aFdv, aPow, aXor, aShl, aShr, agSub, aoN, aoS, aSl, aRev, aLen, aList, aTupOf, aLRg1, aLRg2, aAbs, aI2N, aMax, aMin, aDm, aAll, aAny, aBM, aApp, aPopAt, aPop, aClear, aRevM, aExt, aRepr, aClD, aLnSt, aIAdd, aBreak, aCont,
  aEnd, startA, List.map_cons, List.map_nil, List.cons_append, List.nil_append, List.length_cons, List.length_nil, List.replicate, List.getElem?_cons_zero, List.getElem?_cons_succ, List.set_cons_zero, List.set_cons_succ, Nat.reduceAdd, Nat.reduceSub, Nat.succ_eq_add_one, Int.reduceAdd, Int.reduceMul,
  reduceIte, Bool.false_eq_true, Bool.not_true, Bool.not_false, ite_true, ite_false])
local macro_rules | `(tactic| walk_at "A.lop") => `(tactic| try simp only [decide_true, decide_false, aMtF, aFmt, aJs, aEqO, aNeO, aReprF, aRevT, aIsiT, aInt, aStrI, aEnum, aZip, aMulL, aCount, aAugS, aSetOf, aSrtSet, aSum, aDNew, aDIn, aDIx, aDPut, aLenD, aListD, aBits, aDsp1, aBool, aSorted, wipeA, aSeq, aNext, aSet, aVar, atV_s, onB_b, onI_i, onII_i, onL1_i, onL2_i, it_l, it_t, it_s, it_x, ix_l, ix_t, ix_s, add_i, add_x, eq_i, eq_x, eq_b, is_b, aC, aNil, aCons, aOp, aUn, aTup, aLst, aCB, aNot, aAnd, aOr, aTst, aIfE, aAndV, aOrV, aNotV, aChn, aDrop, aRet, aRetN, aIf, agName, agNil, agCons, agTup, aAsg, aPar, aAug, aFor, aRng1, aRng2, aIter, aLc, aYes,
  aCl, aMt, aMk, aFl, aFst, aNeg, aI2, aI20, aLe, aLt, aGt, aGe, aSub, aMod, aMul, aFdv, aPow, aXor, aShl, aShr, agSub, aoN, aoS, aSl, aRev, aLen, aList, aTupOf, aLRg1, aLRg2, aAbs, aI2N, aMax, aMin, aDm, aBM, aApp, aPopAt, aPop, aClear, aRevM, aExt, aClD, aLnSt, aIAdd, aBreak, aCont,
  aEnd, startA, List.map_cons, List.map_nil, List.cons_append, List.nil_append, List.length_cons, List.length_nil, List.replicate, List.getElem?_cons_zero, List.getElem?_cons_succ, List.set_cons_zero, List.set_cons_succ, Nat.reduceAdd, Nat.reduceSub, Nat.succ_eq_add_one, Int.reduceAdd, Int.reduceMul,
  reduceIte, Bool.false_eq_true, Bool.not_true, Bool.not_false, ite_true, ite_false])
section
variable {P : Program} {w : World} {A : Around} {E : Value → Shared → Prop} {s : Shared} {a b r : Addr} {S T : Int → Bool} {n m : Nat}
theorem setR_ty (R : SetR w s.heap a S n) : s.TypeIs (.ref a) "set" := by
  obtain ⟨o, es, ep, t, ho, hx, _⟩ := R
  exact ⟨o, ho, hx.1⟩
theorem any_set {Q : Bool → Shared → Prop} (h : s.TypeIs (.ref a) "set") (q : Q true s) : wpAny (model P w) A (Builtin.Frozenset.isAnySet (.ref a)) Q E s := by
  unfold Builtin.Frozenset.isAnySet
  refine wpAny_bind (wpAny_isInstance h F.sub_set_set ?_)
  exact wpAny_pure q
theorem size_of {Q : Nat → Shared → Prop} (R : SetR w s.heap a S n) (q : Q n s) : wpAny (model P w) A (Builtin.Frozenset.sizeOf a) Q E s := by
  obtain ⟨o, es, ep, t, ho, hx, hd, g, nd, hm, hb, hf, hn, _⟩ := R
  unfold Builtin.Frozenset.sizeOf setEntries
  refine wpAny_bind (wpAny_bind (wpAny_setState_of ho hd hf (wpAny_pure ?_)))
  exact wpAny_pure (by rw [hn]; exact q)
theorem base_of {Q : Value → Shared → Prop} (h : s.TypeIs (.ref a) "set") (q : Q (.type "set") s) : wpAny (model P w) A (Builtin.Frozenset.baseOf a) Q E s := by
  unfold Builtin.Frozenset.baseOf
  refine wpAny_bind (wpAny_isInstance h F.sub_set_set ?_)
  exact wpAny_pure q
/-- no int asks for an == of one's own -/
theorem quiet_of {Q : Bool → Shared → Prop} {sets : List Addr} (h : ∀ b ∈ sets, ∃ S n, SetR w s.heap b S n) (q : Q true s) : wpAny (model P w) A (setsQuiet sets) Q E s := by
  unfold setsQuiet
  refine wpAny_bind (wpAny_forIn_list _ (fun rest b s' => b.1 = none ∧ s' = s ∧ ∀ b ∈ rest, ∃ S n, SetR w s.heap b S n) _ ?turn ?fin sets _ ⟨rfl, rfl, h⟩)
  case turn =>
    rintro x rest b s' ⟨hb, rfl, hr⟩
    obtain ⟨S, n, o, es, ep, t, ho, hx, hd, g, nd, hm, hbd, hf, hn, _⟩ := hr x List.mem_cons_self
    refine wpAny_bind ?_
    unfold setEntries
    refine wpAny_bind (wpAny_setState_of ho hd hf (wpAny_pure ?_))
    refine wpAny_bind ?_
    refine MeetsSeq2.wpAny_forIn_array _ (fun rest b s2 => b.1 = none ∧ s2 = s' ∧ ∀ e ∈ rest, GoodE e) _ ?t2 ?f2 es _ ⟨rfl, rfl, g⟩
    case t2 =>
      rintro e rest2 b2 s2 ⟨hb2, rfl, h2⟩
      obtain ⟨k, tk, e1, e2⟩ := h2 e List.mem_cons_self
      obtain ⟨eh, ev⟩ := e
      simp only at e1 e2
      subst e1
      exact wpAny_pure ⟨rfl, rfl, fun y hy => h2 y (List.mem_cons_of_mem _ hy)⟩
    case f2 =>
      rintro b2 s2 ⟨hb2, rfl, _⟩
      obtain ⟨b2a, b2b⟩ := b2
      simp only at hb2
      subst hb2
      exact wpAny_pure ⟨rfl, rfl, fun y hy => hr y (List.mem_cons_of_mem _ hy)⟩
  case fin =>
    rintro b s' ⟨hb, rfl, _⟩
    obtain ⟨b1, b2⟩ := b
    simp only at hb
    subst hb
    exact wpAny_pure q
end
end A

namespace A
open PySem PySem.Spec L2 PyProof.Rows
local macro_rules | `(tactic| walk_at "A.go") => `(tactic| simp only [aSeq, aNext, aSet, aVar, atV_s, onB_b, onI_i, onII_i, onL1_i, onL2_i, it_l, it_t, it_s, it_x, ix_l, ix_t, ix_s, add_i, add_x, eq_i, eq_x, eq_b, is_b, aC, aNil, aCons, aOp, aUn, aTup, aLst, aCB, aNot, aAnd, aOr, aTst, aIfE, aAndV, aOrV, aNotV, aChn, aDrop, aRet, aRetN, aIf, agName, agNil, agCons, agTup, aAsg, aPar, aAug, aFor, aRng1, aRng2, aIter, aLc, aYes,
  aCl, aMt, aMk, aFl, aFst, aNeg, aI2, aI20, aLe, aLt, aGt, aGe, aSub, aMod, aMul, aFdv, aPow, aXor, aShl, aShr, agSub, aoN, aoS, aSl, aRev, aLen, aList, aTupOf, aLRg1, aLRg2, aAbs, aI2N, aMax, aMin, aDm, aAll, aAny, aBM, aApp, aPopAt, aPop, aClear, aRevM, aExt, aRepr, aClD, aLnSt, aIAdd, aBreak, aCont,
  aEnd, startA, List.map_cons, List.map_nil, List.cons_append, List.nil_append, List.length_cons, List.length_nil, List.replicate, List.getElem?_cons_zero, List.getElem?_cons_succ, List.set_cons_zero, List.set_cons_succ, Nat.reduceAdd, Nat.reduceSub, Nat.succ_eq_add_one, Int.reduceAdd, Int.reduceMul,
  reduceIte, Bool.false_eq_true, Bool.not_true, Bool.not_false, ite_true, ite_false])
local macro_rules | `(tactic| walk_at "A.hop") => `(tactic| try simp only [aMtF, aFmt, aJs, aEqO, aNeO, aReprF, aRevT, aIsiT, aInt, aStrI, aEnum, aZip, aMulL, aCount, aAugS, aSetOf, aSrtSet, aSum, aDNew, aDIn, aDIx, aDPut, aLenD, aListD, aBits, aDsp1, aBool, aSorted, wipeA, aSeq, aNext, aSet, aVar, atV_s, onB_b, onI_i, onII_i, onL1_i, onL2_i, it_l, it_t, it_s, it_x, ix_l, ix_t, ix_s, add_i, add_x, eq_i, eq_x, eq_b, is_b, aC, aNil, aCons, aOp, aUn, aTup, aLst, aCB, aNot, aAnd, aOr, aTst, aIfE, aAndV, aOrV, aNotV, aChn, aDrop, aRet, aRetN, aIf, agName, agNil, agCons, agTup, aAsg, aPar, aAug, aFor, aRng1, aRng2, aIter, aLc, aYes,
  aCl, aMt, aMk, aFl, aFst, aNeg, aI2, aI20, aLe, aLt, aGt, aGe, aSub, aMod, aMul, aFdv, aPow, aXor, aShl, aShr, agSub, aoN, aoS, aSl, aRev, aLen, aList, aTupOf, aLRg1, aLRg2, aAbs, aI2N, aMax, aMin, aDm, aAll, aAny, aBM, aApp, aPopAt, aPop, aClear, aRevM, aExt, aRepr, aClD, aLnSt, aIAdd, aBreak, aCont,
  aEnd, startA, List.map_cons, List.map_nil, List.cons_append, List.nil_append, List.length_cons, List.length_nil, List.replicate, List.getElem?_cons_zero, List.getElem?_cons_succ, List.set_cons_zero, List.set_cons_succ, Nat.reduceAdd, Nat.reduceSub, Nat.succ_eq_add_one, Int.reduceAdd, Int.reduceMul,
  reduceIte, Bool.false_eq_true, Bool.not_true, Bool.not_false, ite_true, ite_false])
local macro_rules | `(tactic| walk_at "A.lop") => `(tactic| try simp only [decide_true, decide_false, aMtF, aFmt, aJs, aEqO, aNeO, aReprF, aRevT, aIsiT, aInt, aStrI, aEnum, aZip, aMulL, aCount, aAugS, aSetOf, aSrtSet, aSum, aDNew, aDIn, aDIx, aDPut, aLenD, aListD, aBits, aDsp1, aBool, aSorted, wipeA, aSeq, aNext, aSet, aVar, atV_s, onB_b, onI_i, onII_i, onL1_i, onL2_i, it_l, it_t, it_s, it_x, ix_l, ix_t, ix_s, add_i, add_x, eq_i, eq_x, eq_b, is_b, aC, aNil, aCons, aOp, aUn, aTup, aLst, aCB, aNot, aAnd, aOr, aTst, aIfE, aAndV, aOrV, aNotV, aChn, aDrop, aRet, aRetN, aIf, agName, agNil, agCons, agTup, aAsg, aPar, aAug, aFor, aRng1, aRng2, aIter, aLc, aYes,
  aCl, aMt, aMk, aFl, aFst, aNeg, aI2, aI20, aLe, aLt, aGt, aGe, aSub, aMod, aMul, aFdv, aPow, aXor, aShl, aShr, agSub, aoN, aoS, aSl, aRev, aLen, aList, aTupOf, aLRg1, aLRg2, aAbs, aI2N, aMax, aMin, aDm, aBM, aApp, aPopAt, aPop, aClear, aRevM, aExt, aClD, aLnSt, aIAdd, aBreak, aCont,
  aEnd, startA, List.map_cons, List.map_nil, List.cons_append, List.nil_append, List.length_cons, List.length_nil, List.replicate, List.getElem?_cons_zero, List.getElem?_cons_succ, List.set_cons_zero, List.set_cons_succ, Nat.reduceAdd, Nat.reduceSub, Nat.succ_eq_add_one, Int.reduceAdd, Int.reduceMul,
  reduceIte, Bool.false_eq_true, Bool.not_true, Bool.not_false, ite_true, ite_false])
/-- the elements of a set, in some order -/
def Els (l : List (Int × Value)) (S : Int → Bool) (n : Nat) : Prop := (∀ e ∈ l, GoodE e) ∧ (l.map keyOf).Nodup ∧ (∀ k, S k = true ↔ k ∈ l.map keyOf) ∧ l.length = n
theorem Els.perm {l l' : List (Int × Value)} {S : Int → Bool} {n : Nat} (h : Els l S n) (p : l'.Perm l) : Els l' S n :=
  ⟨fun e he => h.1 e (p.mem_iff.mp he), (p.map keyOf).nodup_iff.mpr h.2.1, fun k => (h.2.2.1 k).trans (p.map keyOf).mem_iff.symm, p.length_eq.trans h.2.2.2⟩
section
variable {P : Program} {w : World} {A : Around} {E : Value → Shared → Prop} {s : Shared} {a b r : Addr} {S T : Int → Bool} {n m : Nat}
theorem setWalk_led {o : Obj} {es : Array (Int × Value)} {ep : Nat} {t : SetTable} {Q : Array (Int × Value) → Shared → Prop} (ho : s.heap.get? a = some o) (hd : o.data = .set es ep t) (hf : t.fits es.size = true)
    (hc : w.params.followText "set-order" = true ∨ ((!t.plain && decide (es.size > 1)) = false ∧ (!t.led && decide (es.size > 1)) = false)) (q : ∀ es' : Array (Int × Value), es'.toList.Perm es.toList → Q es' s) :
    wpAny (model P w) A (setWalk a) Q E s := by
  unfold setWalk
  refine wpAny_bind (wpAny_setState_of ho hd hf ?_)
  dsimp only
  refine wpAny_bind (wpAny_byText ?_)
  by_cases hbt : w.params.followText "set-order" = true
  · refine wp_if_pos hbt ?_
    exact wpAny_bind (wpAny_askSetting (wpAny_pure (q _ (pick_perm _ _))))
  · obtain ⟨h1, h2⟩ := hc.resolve_left hbt
    refine wp_if_neg hbt ?_
    try refine wpAny_bind (wpAny_pure ?_)
    refine wp_if_neg (by show ¬ ((!t.plain && decide (es.size > 1)) = true); rw [h1]; exact Bool.false_ne_true) ?_
    try refine wpAny_bind (wpAny_pure ?_)
    refine wpAny_bind (wpAny_of_eq (a := ()) ?_ ?_)
    · show (if (!t.led && decide (es.size > 1)) = true then unsupported "set:maker-not-led" else pure ()) = pure ()
      rw [h2]
      rfl
    · exact wpAny_pure (q _ (.refl _))
theorem walkU_none {others : List Addr} {Q : Array (Int × Value) → Shared → Prop} (R : SetR w s.heap a S n) (hoth : ∀ b ∈ others, ∃ S n, SetR w s.heap b S n)
    (q : ∀ es : Array (Int × Value), Els es.toList S n → Q es s) : wpAny (model P w) A (setWalkUnseen a others none) Q E s := by
  have R0 := R
  obtain ⟨o, es, ep, t, ho, hx, hd, g, nd, hm, hb, hf, hn, hr, hl⟩ := R
  have el : Els es.toList S n := ⟨g, nd, hm, by rw [Array.length_toList]; exact hn⟩
  unfold setWalkUnseen
  refine wpAny_bind (wpAny_setState_of ho hd hf ?_)
  dsimp only
  refine wpAny_bind (wpAny_byText ?_)
  split
  · rename_i hc
    refine setWalk_led ho hd hf ?_ fun es' p => q _ (el.perm p)
    simp only [Bool.or_eq_true, Bool.and_eq_true, decide_eq_true_eq] at hc
    rcases hc with (hc | ⟨hc1, hc2⟩) | hc
    · exact .inl hc
    · exact .inr ⟨by rw [hc2]; rfl, by rw [hc1]; rfl⟩
    · have : decide (es.size > 1) = false := decide_eq_false (by omega)
      exact .inr ⟨by rw [this, Bool.and_false], by rw [this, Bool.and_false]⟩
  · try refine wpAny_bind (wpAny_pure ?_)
    refine wpAny_bind (quiet_of (fun b hb => ?_) ?_)
    · rcases List.mem_cons.mp hb with e | e
      · subst e; exact ⟨S, n, R0⟩
      · exact hoth b e
    · refine wp_if_neg (by simp) ?_
      try refine wpAny_bind (wpAny_pure ?_)
      refine wpAny_bind (wpAny_rule ?_)
      try refine wpAny_bind (wpAny_pure ?_)
      exact wpAny_pure (q _ el)
theorem walkU_some {others : List Addr} {Q : Array (Int × Value) → Shared → Prop} (R : SetR w s.heap a S n) (F : SetR w s.heap r T m) (hoth : ∀ b ∈ others, ∃ S n, SetR w s.heap b S n)
    (q : ∀ (es : Array (Int × Value)) (h' : Heap), Els es.toList S n → Heap.SameBut r s.heap h' → SetR w h' r T m → Q es { s with heap := h' }) : wpAny (model P w) A (setWalkUnseen a others (some r)) Q E s := by
  have R0 := R
  have F0 := F
  obtain ⟨o, es, ep, t, ho, hx, hd, g, nd, hm, hb, hf, hn, hr, hl⟩ := R
  have el : Els es.toList S n := ⟨g, nd, hm, by rw [Array.length_toList]; exact hn⟩
  unfold setWalkUnseen
  refine wpAny_bind (wpAny_setState_of ho hd hf ?_)
  dsimp only
  refine wpAny_bind (wpAny_byText ?_)
  split
  · rename_i hc
    refine setWalk_led ho hd hf ?_ fun es' p => q _ s.heap (el.perm p) (Heap.SameBut.refl _ _) F0
    simp only [Bool.or_eq_true, Bool.and_eq_true, decide_eq_true_eq] at hc
    rcases hc with (hc | ⟨hc1, hc2⟩) | hc
    · exact .inl hc
    · exact .inr ⟨by rw [hc2]; rfl, by rw [hc1]; rfl⟩
    · have : decide (es.size > 1) = false := decide_eq_false (by omega)
      exact .inr ⟨by rw [this, Bool.and_false], by rw [this, Bool.and_false]⟩
  · rename_i hc
    simp only [Bool.or_eq_true, Bool.and_eq_true, decide_eq_true_eq, not_or] at hc
    have tl : t.led = true := hl.resolve_left hc.1.1
    try refine wpAny_bind (wpAny_pure ?_)
    refine wpAny_bind (quiet_of (fun b hb => ?_) ?_)
    · rcases List.mem_cons.mp hb with e | e
      · subst e; exact ⟨S, n, R0⟩
      · exact hoth b e
    · refine wp_if_neg (by simp) ?_
      try refine wpAny_bind (wpAny_pure ?_)
      refine wpAny_bind (wpAny_rule ?_)
      try refine wpAny_bind (wpAny_pure ?_)
      try dsimp only
      obtain ⟨o2, es2, ep2, t2, ho2, hx2, hd2, g2, nd2, hm2, hb2, hf2, hn2, hr2, hl2⟩ := F
      refine wpAny_bind (wpAny_setState_of ho2 hd2 hf2 ?_)
      dsimp only
      split
      · refine wpAny_bind (wpAny_storeSet_of ho2 hd2 ?_ (fits_of_scanBound hb2))
        try refine wpAny_bind (wpAny_pure ?_)
        refine wpAny_pure (q _ _ el (Heap.SameBut.update s.heap r _) ⟨_, es2, _, _, store_at ho2 hd2, hx2, rfl, g2, nd2, hm2, hb2, hf2, hn2, hr2, ?_⟩)
        exact hl2.imp id fun z => by rw [z, tl]; rfl
      · try refine wpAny_bind (wpAny_pure ?_)
        exact wpAny_pure (q _ s.heap el (Heap.SameBut.refl _ _) F0)
end
end A

namespace A
open PySem PySem.Spec L2 PyProof.Rows
local macro_rules | `(tactic| walk_at "A.go") => `(tactic| simp only [aSeq, aNext, aSet, aVar, atV_s, onB_b, onI_i, onII_i, onL1_i, onL2_i, it_l, it_t, it_s, it_x, ix_l, ix_t, ix_s, add_i, add_x, eq_i, eq_x, eq_b, is_b, aC, aNil, aCons, aOp, aUn, aTup, aLst, aCB, aNot, aAnd, aOr, aTst, aIfE, aAndV, aOrV, aNotV, aChn, aDrop, aRet, aRetN, aIf, agName, agNil, agCons, agTup, aAsg, aPar, aAug, aFor, aRng1, aRng2, aIter, aLc, aYes,
  aCl, aMt, aMk, aFl, aFst, aNeg, aI2, aI20, aLe, aLt, aGt, aGe, aSub, aMod, aMul, aFdv, aPow, aXor, aShl, aShr, agSub, aoN, aoS, aSl, aRev, aLen, aList, aTupOf, aLRg1, aLRg2, aAbs, aI2N, aMax, aMin, aDm, aAll, aAny, aBM, aApp, aPopAt, aPop, aClear, aRevM, aExt, aRepr, aClD, aLnSt, aIAdd, aBreak, aCont,
  aEnd, startA, List.map_cons, List.map_nil, List.cons_append, List.nil_append, List.length_cons, List.length_nil, List.replicate, List.getElem?_cons_zero, List.getElem?_cons_succ, List.set_cons_zero, List.set_cons_succ, Nat.reduceAdd, Nat.reduceSub, Nat.succ_eq_add_one, Int.reduceAdd, Int.reduceMul,
  reduceIte, Bool.false_eq_true, Bool.not_true, Bool.not_false, ite_true, ite_false])
local macro_rules | `(tactic| walk_at "A.hop") => `(tactic| try simp only [aMtF, aFmt, aJs, aEqO, aNeO, aReprF, aRevT, aIsiT, aInt, aStrI, aEnum, aZip, aMulL, aCount, aAugS, aSetOf, aSrtSet, aSum, aDNew, aDIn, aDIx, aDPut, aLenD, aListD, aBits, aDsp1, aBool, aSorted, wipeA, aSeq, aNext, aSet, aVar, atV_s, onB_b, onI_i, onII_i, onL1_i, onL2_i, it_l, it_t, it_s, it_x, ix_l, ix_t, ix_s, add_i, add_x, eq_i, eq_x, eq_b, is_b, aC, aNil, aCons, aOp, aUn, aTup, aLst, aCB, aNot, aAnd, aOr, aTst, aIfE, aAndV, aOrV, aNotV, aChn, aDrop, aRet, aRetN, aIf, agName, agNil, agCons, agTup, aAsg, aPar, aAug, aFor, aRng1, aRng2, aIter, aLc, aYes,
  aCl, aMt, aMk, aFl, aFst, aNeg, aI2, aI20, aLe, aLt, aGt, aGe, aSub, aMod, aMul, aFdv, aPow, aXor, aShl, aShr, agSub, aoN, aoS, aSl, aRev, aLen, aList, aTupOf, aLRg1, aLRg2, aAbs, aI2N, aMax, aMin, aDm, aAll, aAny, aBM, aApp, aPopAt, aPop, aClear, aRevM, aExt, aRepr, aClD, aLnSt, aIAdd, aBreak, aCont,
  aEnd, startA, List.map_cons, List.map_nil, List.cons_append, List.nil_append, List.length_cons, List.length_nil, List.replicate, List.getElem?_cons_zero, List.getElem?_cons_succ, List.set_cons_zero, List.set_cons_succ, Nat.reduceAdd, Nat.reduceSub, Nat.succ_eq_add_one, Int.reduceAdd, Int.reduceMul,
  reduceIte, Bool.false_eq_true, Bool.not_true, Bool.not_false, ite_true, ite_false])
local macro_rules | `(tactic| walk_at "A.lop") => `(tactic| try simp only [decide_true, decide_false, aMtF, aFmt, aJs, aEqO, aNeO, aReprF, aRevT, aIsiT, aInt, aStrI, aEnum, aZip, aMulL, aCount, aAugS, aSetOf, aSrtSet, aSum, aDNew, aDIn, aDIx, aDPut, aLenD, aListD, aBits, aDsp1, aBool, aSorted, wipeA, aSeq, aNext, aSet, aVar, atV_s, onB_b, onI_i, onII_i, onL1_i, onL2_i, it_l, it_t, it_s, it_x, ix_l, ix_t, ix_s, add_i, add_x, eq_i, eq_x, eq_b, is_b, aC, aNil, aCons, aOp, aUn, aTup, aLst, aCB, aNot, aAnd, aOr, aTst, aIfE, aAndV, aOrV, aNotV, aChn, aDrop, aRet, aRetN, aIf, agName, agNil, agCons, agTup, aAsg, aPar, aAug, aFor, aRng1, aRng2, aIter, aLc, aYes,
  aCl, aMt, aMk, aFl, aFst, aNeg, aI2, aI20, aLe, aLt, aGt, aGe, aSub, aMod, aMul, aFdv, aPow, aXor, aShl, aShr, agSub, aoN, aoS, aSl, aRev, aLen, aList, aTupOf, aLRg1, aLRg2, aAbs, aI2N, aMax, aMin, aDm, aBM, aApp, aPopAt, aPop, aClear, aRevM, aExt, aClD, aLnSt, aIAdd, aBreak, aCont,
  aEnd, startA, List.map_cons, List.map_nil, List.cons_append, List.nil_append, List.length_cons, List.length_nil, List.replicate, List.getElem?_cons_zero, List.getElem?_cons_succ, List.set_cons_zero, List.set_cons_succ, Nat.reduceAdd, Nat.reduceSub, Nat.succ_eq_add_one, Int.reduceAdd, Int.reduceMul,
  reduceIte, Bool.false_eq_true, Bool.not_true, Bool.not_false, ite_true, ite_false])
def frO2 (w : World) : Obj := { cls := .type "set", dict := none, data := .set #[] 0 (.fresh 0 0 (!w.params.followText "set-order")) }
section
variable {P : Program} {w : World} {A : Around} {E : Value → Shared → Prop} {s : Shared} {a b r : Addr} {S T : Int → Bool} {n m : Nat}
theorem unchanged_of {id : String} {o : Obj} {es : Array (Int × Value)} {ep : Nat} {t : SetTable} {Q : Unit → Shared → Prop} (ho : s.heap.get? a = some o) (hd : o.data = .set es ep t) (hf : t.fits es.size = true) (q : Q () s) :
    wpAny (model P w) A (Builtin.Frozenset.unchanged id a ep) Q E s := by
  unfold Builtin.Frozenset.unchanged
  refine wpAny_bind (wpAny_setEpoch_of ho hd hf ?_)
  refine wp_if_neg (by simp) ?_
  exact wpAny_pure q
theorem epoch_of {o : Obj} {es : Array (Int × Value)} {ep : Nat} {t : SetTable} {Q : Nat → Shared → Prop} (ho : s.heap.get? a = some o) (hd : o.data = .set es ep t) (hf : t.fits es.size = true) (q : Q ep s) :
    wpAny (model P w) A (setEpoch a) Q E s := by
  unfold setEpoch
  refine wpAny_bind (wpAny_setState_of ho hd hf ?_)
  exact wpAny_pure q
theorem find_of {k : Int} {tk : Tok} {h : Int} {Q : Option Nat → Shared → Prop} (eh : h = hashInt k) (R : SetR w s.heap a S n) (q : ∀ x : Option Nat, x.isSome = S k → Q x s) : wpAny (model P w) A (setFind a (.int k tk) h) Q E s := by
  subst eh
  exact wpAny_setFind_of (knd := intKind P w) (k := k) (intKind_is P w k tk) rfl R.setOf q
theorem add_of {k : Int} {tk : Tok} {h : Int} {Q : Bool → Shared → Prop} (eh : h = hashInt k) (R : SetR w s.heap a S n) (room : n + 1 < scanBound)
    (hQ : ∀ h', Heap.SameBut a s.heap h' → SetR w h' a (fun j => S j || decide (j = k)) (if S k = true then n else n + 1) → Q (!S k) { s with heap := h' }) :
    wpAny (model P w) A (setAddHashed a (.int k tk) h) Q E s := by
  subst eh
  exact setR_add_hashed (P := P) R room hQ
theorem new_of {Q : Value → Shared → Prop} (q : ∀ h', (∀ b o, s.heap.get? b = some o → h'.get? b = some o) → s.heap.objs.size + 1 = h'.objs.size → SetR w h' s.heap.objs.size (fun _ => false) 0 →
      h' = s.heap.push (frO2 w) → Q (.ref s.heap.objs.size) { s with heap := h' }) :
    wpAny (model P w) A (newSet (.type "set")) Q E s := by
  unfold newSet setsByText
  refine wpAny_bind (wpAny_bind (wpAny_askSetting (wpAny_pure ?_)))
  dsimp only
  simp only [newObj]
  refine wpAny_bind (wpAny_alloc (wpAny_pure (q _ (fun b o e => Heap.get?_push_of_some _ e) (by rw [Heap.size_push]) (setR_fresh w) rfl)))
end
end A

namespace A
open PySem PySem.Spec L2 PyProof.Rows
local macro_rules | `(tactic| walk_at "A.go") => `(tactic| simp only [aSeq, aNext, aSet, aVar, atV_s, onB_b, onI_i, onII_i, onL1_i, onL2_i, it_l, it_t, it_s, it_x, ix_l, ix_t, ix_s, add_i, add_x, eq_i, eq_x, eq_b, is_b, aC, aNil, aCons, aOp, aUn, aTup, aLst, aCB, aNot, aAnd, aOr, aTst, aIfE, aAndV, aOrV, aNotV, aChn, aDrop, aRet, aRetN, aIf, agName, agNil, agCons, agTup, aAsg, aPar, aAug, aFor, aRng1, aRng2, aIter, aLc, aYes,
  aCl, aMt, aMk, aFl, aFst, aNeg, aI2, aI20, aLe, aLt, aGt, aGe, aSub, aMod, aMul, aFdv, aPow, aXor, aShl, aShr, agSub, aoN, aoS, aSl, aRev, aLen, aList, aTupOf, aLRg1, aLRg2, aAbs, aI2N, aMax, aMin, aDm, aAll, aAny, aBM, aApp, aPopAt, aPop, aClear, aRevM, aExt, aRepr, aClD, aLnSt, aIAdd, aBreak, aCont,
  aEnd, startA, List.map_cons, List.map_nil, List.cons_append, List.nil_append, List.length_cons, List.length_nil, List.replicate, List.getElem?_cons_zero, List.getElem?_cons_succ, List.set_cons_zero, List.set_cons_succ, Nat.reduceAdd, Nat.reduceSub, Nat.succ_eq_add_one, Int.reduceAdd, Int.reduceMul,
  reduceIte, Bool.false_eq_true, Bool.not_true, Bool.not_false, ite_true, ite_false])
local macro_rules | `(tactic| walk_at "A.hop") => `(tactic| try simp only [aMtF, aFmt, aJs, aEqO, aNeO, aReprF, aRevT, aIsiT, aInt, aStrI, aEnum, aZip, aMulL, aCount, aAugS, aSetOf, aSrtSet, aSum, aDNew, aDIn, aDIx, aDPut, aLenD, aListD, aBits, aDsp1, aBool, aSorted, wipeA, aSeq, aNext, aSet, aVar, atV_s, onB_b, onI_i, onII_i, onL1_i, onL2_i, it_l, it_t, it_s, it_x, ix_l, ix_t, ix_s, add_i, add_x, eq_i, eq_x, eq_b, is_b, aC, aNil, aCons, aOp, aUn, aTup, aLst, aCB, aNot, aAnd, aOr, aTst, aIfE, aAndV, aOrV, aNotV, aChn, aDrop, aRet, aRetN, aIf, agName, agNil, agCons, agTup, aAsg, aPar, aAug, aFor, aRng1, aRng2, aIter, aLc, aYes,
  aCl, aMt, aMk, aFl, aFst, aNeg, aI2, aI20, aLe, aLt, aGt, aGe, aSub, aMod, aMul, aFdv, aPow, aXor, aShl, aShr, agSub, aoN, aoS, aSl, aRev, aLen, aList, aTupOf, aLRg1, aLRg2, aAbs, aI2N, aMax, aMin, aDm, aAll, aAny, aBM, aApp, aPopAt, aPop, aClear, aRevM, aExt, aRepr, aClD, aLnSt, aIAdd, aBreak, aCont,
  aEnd, startA, List.map_cons, List.map_nil, List.cons_append, List.nil_append, List.length_cons, List.length_nil, List.replicate, List.getElem?_cons_zero, List.getElem?_cons_succ, List.set_cons_zero, List.set_cons_succ, Nat.reduceAdd, Nat.reduceSub, Nat.succ_eq_add_one, Int.reduceAdd, Int.reduceMul,
  reduceIte, Bool.false_eq_true, Bool.not_true, Bool.not_false, ite_true, ite_false])
local macro_rules | `(tactic| walk_at "A.lop") => `(tactic| try simp only [decide_true, decide_false, aMtF, aFmt, aJs, aEqO, aNeO, aReprF, aRevT, aIsiT, aInt, aStrI, aEnum, aZip, aMulL, aCount, aAugS, aSetOf, aSrtSet, aSum, aDNew, aDIn, aDIx, aDPut, aLenD, aListD, aBits, aDsp1, aBool, aSorted, wipeA, aSeq, aNext, aSet, aVar, atV_s, onB_b, onI_i, onII_i, onL1_i, onL2_i, it_l, it_t, it_s, it_x, ix_l, ix_t, ix_s, add_i, add_x, eq_i, eq_x, eq_b, is_b, aC, aNil, aCons, aOp, aUn, aTup, aLst, aCB, aNot, aAnd, aOr, aTst, aIfE, aAndV, aOrV, aNotV, aChn, aDrop, aRet, aRetN, aIf, agName, agNil, agCons, agTup, aAsg, aPar, aAug, aFor, aRng1, aRng2, aIter, aLc, aYes,
  aCl, aMt, aMk, aFl, aFst, aNeg, aI2, aI20, aLe, aLt, aGt, aGe, aSub, aMod, aMul, aFdv, aPow, aXor, aShl, aShr, agSub, aoN, aoS, aSl, aRev, aLen, aList, aTupOf, aLRg1, aLRg2, aAbs, aI2N, aMax, aMin, aDm, aBM, aApp, aPopAt, aPop, aClear, aRevM, aExt, aClD, aLnSt, aIAdd, aBreak, aCont,
  aEnd, startA, List.map_cons, List.map_nil, List.cons_append, List.nil_append, List.length_cons, List.length_nil, List.replicate, List.getElem?_cons_zero, List.getElem?_cons_succ, List.set_cons_zero, List.set_cons_succ, Nat.reduceAdd, Nat.reduceSub, Nat.succ_eq_add_one, Int.reduceAdd, Int.reduceMul,
  reduceIte, Bool.false_eq_true, Bool.not_true, Bool.not_false, ite_true, ite_false])
section
variable {P : Program} {w : World} {A : Around} {E : Value → Shared → Prop} {s : Shared} {a b r : Addr} {S T : Int → Bool} {n m : Nat}
theorem setR_sb {h h' : Heap} (R : SetR w h a S n) (k : Heap.SameBut r h h') (ne : a ≠ r) : SetR w h' a S n := R.at fun o e => k.extBut a o ne e
theorem dec_cons {j k : Int} {l : List Int} (h : ¬ j = k) : decide (j ∈ k :: l) = decide (j ∈ l) := decide_eq_decide.mpr (by rw [List.mem_cons]; exact or_iff_right h)
theorem diff_direct {id : String} {Q : Value → Shared → Prop} (RS : SetR w s.heap a S n) (RT : SetR w s.heap b T m) (hn : n + 1 < scanBound) (hd : ¬ n / 4 > m)
    (q : ∀ h' c, (∀ x o, s.heap.get? x = some o → h'.get? x = some o) → SetR w h' s.heap.objs.size (fun k => S k && !T k) c → Q (.ref s.heap.objs.size) { s with heap := h' }) :
    wpAny (model P w) A (Builtin.Frozenset.difference id a (.ref b)) Q E s := by
  unfold Builtin.Frozenset.difference
  dsimp only
  refine wpAny_bind (any_set (setR_ty RT) ?_)
  simp only [Bool.not_true, Bool.false_eq_true, ↓reduceIte, Bool.false_and]
  refine wpAny_bind (m := Builtin.Frozenset.addrOf (.ref b)) (wpAny_pure ?_)
  try refine wpAny_bind (wpAny_pure ?_)
  refine wpAny_bind (size_of RT ?_)
  refine wpAny_bind (size_of RS ?_)
  refine wp_if_neg hd ?_
  try refine wpAny_bind (wpAny_pure ?_)
  refine wpAny_bind (base_of (setR_ty RS) ?_)
  refine wpAny_bind (new_of fun h1 k1 z1 R1 e1 => ?_)
  refine wpAny_bind (m := Builtin.Frozenset.addrOf (.ref _)) (wpAny_pure ?_)
  have RS1 : SetR w h1 a S n := RS.at (k1 a)
  have RT1 : SetR w h1 b T m := RT.at (k1 b)
  have ltS := RS.lt
  have ltT := RT.lt
  have RS0 := RS1
  obtain ⟨o, es, ep, t, ho, hx, hdt, g, nd, hm, hb, hf, hnn, _⟩ := RS0
  refine wpAny_bind (epoch_of (s := { s with heap := h1 }) ho hdt hf ?_)
  refine wpAny_bind (wpAny_holding ?_)
  refine wpAny_bind (walkU_some (s := { s with heap := h1 }) RS1 R1 (fun x hx => ?_) fun es2 h2 el sb2 R2 => ?_)
  · simp only [List.mem_cons, List.not_mem_nil, or_false] at hx
    rcases hx with e | e
    · subst e; exact ⟨_, _, RT1⟩
    · subst e; exact ⟨_, _, R1⟩
  have neS : a ≠ s.heap.objs.size := Nat.ne_of_lt ltS
  have neT : b ≠ s.heap.objs.size := Nat.ne_of_lt ltT
  refine wpAny_bind (MeetsSeq2.wpAny_forIn_array _ (fun rest _ s' => ∃ h' c, s' = { s with heap := h' } ∧ Heap.SameBut s.heap.objs.size h1 h' ∧
    SetR w h' s.heap.objs.size (fun k => S k && !T k && !decide (k ∈ rest.map keyOf)) c ∧ c + rest.length ≤ n ∧ (∀ e ∈ rest, GoodE e ∧ S (keyOf e) = true) ∧ (rest.map keyOf).Nodup) _ ?turn ?fin es2 _ ?ini)
  case ini =>
    refine ⟨h2, 0, rfl, sb2, R2.congr fun k => ?_, by rw [el.2.2.2]; omega, fun e he => ⟨el.1 e he, (el.2.2.1 _).mpr (List.mem_map_of_mem he)⟩, el.2.1⟩
    cases e : S k with
    | false => rfl
    | true =>
      rw [decide_eq_true ((el.2.2.1 k).mp e)]
      simp
  case fin =>
    rintro u s' ⟨h', c, rfl, sb, R3, _⟩
    refine wpAny_pure ?_
    try refine wpAny_pure ?_
    refine q h' c (fun x ob e => ?_) (R3.congr fun k => by simp)
    exact sb.extBut x ob (Nat.ne_of_lt (Heap.lt_size e)) (k1 x ob e)
  case turn =>
    rintro e rest u s' ⟨h', c, rfl, sb, R3, hc, hg, hnd⟩
    obtain ⟨⟨k, tk, e1, e2⟩, eS⟩ := hg e List.mem_cons_self
    obtain ⟨eh, ev⟩ := e
    simp only at e1 e2
    subst e1
    have ek : keyOf (eh, Value.int k tk) = k := rfl
    rw [ek] at eS
    rw [List.map_cons, ek] at hnd
    rw [List.length_cons] at hc
    dsimp only
    have RT3 := setR_sb RT1 sb neT
    have ho3 := sb.extBut a o neS ho
    have hg' : ∀ e ∈ rest, GoodE e ∧ S (keyOf e) = true := fun y hy => hg y (List.mem_cons_of_mem _ hy)
    refine wpAny_bind (wpAny_holding ?_)
    refine wpAny_bind (find_of (s := { s with heap := h' }) e2 RT3 fun x hx => ?_)
    refine wpAny_bind (wpAny_pure ?_)
    rw [hx]
    cases eT : T k with
    | true =>
      simp only [Bool.not_true, Bool.false_eq_true, ↓reduceIte]
      refine wpAny_pure ?_
      refine wpAny_bind (unchanged_of (s := { s with heap := h' }) ho3 hdt hf (wpAny_pure ?_))
      refine ⟨h', c, rfl, sb, R3.congr fun j => ?_, by omega, hg', (List.nodup_cons.mp hnd).2⟩
      rw [List.map_cons, ek]
      by_cases ej : j = k
      · subst ej
        rw [eT]
        simp
      · rw [dec_cons ej]
    | false =>
      simp only [Bool.not_false, ↓reduceIte]
      refine wpAny_bind (add_of (s := { s with heap := h' }) e2 R3 (by omega) fun h4 sb4 R4 => ?_)
      refine wpAny_pure ?_
      have ho4 := sb4.extBut a o neS ho3
      refine wpAny_bind (unchanged_of (s := { s with heap := h4 }) ho4 hdt hf (wpAny_pure ?_))
      have nk : (S k && !T k && !decide (k ∈ ((eh, Value.int k tk) :: rest).map keyOf)) = false := by
        rw [List.map_cons, ek]
        simp
      rw [nk] at R4
      refine ⟨h4, c + 1, rfl, sb.trans sb4, R4.congr fun j => ?_, by omega, hg', (List.nodup_cons.mp hnd).2⟩
      rw [List.map_cons, ek]
      by_cases ej : j = k
      · subst ej
        have := (List.nodup_cons.mp hnd).1
        rw [eT, eS, decide_eq_false this]
        simp
      · rw [dec_cons ej, decide_eq_false ej, Bool.or_false]
end
end A

namespace A
open PySem PySem.Spec L2 PyProof.Rows
local macro_rules | `(tactic| walk_at "A.go") => `(tactic| simp only [aSeq, aNext, aSet, aVar, atV_s, onB_b, onI_i, onII_i, onL1_i, onL2_i, it_l, it_t, it_s, it_x, ix_l, ix_t, ix_s, add_i, add_x, eq_i, eq_x, eq_b, is_b, aC, aNil, aCons, aOp, aUn, aTup, aLst, aCB, aNot, aAnd, aOr, aTst, aIfE, aAndV, aOrV, aNotV, aChn, aDrop, aRet, aRetN, aIf, agName, agNil, agCons, agTup, aAsg, aPar, aAug, aFor, aRng1, aRng2, aIter, aLc, aYes,
  aCl, aMt, aMk, aFl, aFst, aNeg, aI2, aI20, aLe, aLt, aGt, aGe, aSub, aMod, aMul, aFdv, aPow, aXor, aShl, aShr, agSub, aoN, aoS, aSl, aRev, aLen, aList, aTupOf, aLRg1, aLRg2, aAbs, aI2N, aMax, aMin, aDm, aAll, aAny, aBM, aApp, aPopAt, aPop, aClear, aRevM, aExt, aRepr, aClD, aLnSt, aIAdd, aBreak, aCont,
  aEnd, startA, List.map_cons, List.map_nil, List.cons_append, List.nil_append, List.length_cons, List.length_nil, List.replicate, List.getElem?_cons_zero, List.getElem?_cons_succ, List.set_cons_zero, List.set_cons_succ, Nat.reduceAdd, Nat.reduceSub, Nat.succ_eq_add_one, Int.reduceAdd, Int.reduceMul,
  reduceIte, Bool.false_eq_true, Bool.not_true, Bool.not_false, ite_true, ite_false])
local macro_rules | `(tactic| walk_at "A.hop") => `(tactic| try simp only [aMtF, aFmt, aJs, aEqO, aNeO, aReprF, aRevT, aIsiT, aInt, aStrI, aEnum, aZip, aMulL, aCount, aAugS, aSetOf, aSrtSet, aSum, aDNew, aDIn, aDIx, aDPut, aLenD, aListD, aBits, aDsp1, aBool, aSorted, wipeA, aSeq, aNext, aSet, aVar, atV_s, onB_b, onI_i, onII_i, onL1_i, onL2_i, it_l, it_t, it_s, it_x, ix_l, ix_t, ix_s, add_i, add_x, eq_i, eq_x, eq_b, is_b, aC, aNil, aCons, aOp, aUn, aTup, aLst, aCB, aNot, aAnd, aOr, aTst, aIfE, aAndV, aOrV, aNotV, aChn, aDrop, aRet, aRetN, aIf, agName, agNil, agCons, agTup, aAsg, aPar, aAug, aFor, aRng1, aRng2, aIter, aLc, aYes,
  aCl, aMt, aMk, aFl, aFst, aNeg, aI2, aI20, aLe, aLt, aGt, aGe, aSub, aMod, aMul, aFdv, aPow, aXor, aShl, aShr, agSub, aoN, aoS, aSl, aRev, aLen, aList, aTupOf, aLRg1, aLRg2, aAbs, aI2N, aMax, aMin, aDm, aAll, aAny, aBM, aApp, aPopAt, aPop, aClear, aRevM, aExt, aRepr, aClD, aLnSt, aIAdd, aBreak, aCont,
  aEnd, startA, List.map_cons, List.map_nil, List.cons_append, List.nil_append, List.length_cons, List.length_nil, List.replicate, List.getElem?_cons_zero, List.getElem?_cons_succ, List.set_cons_zero, List.set_cons_succ, Nat.reduceAdd, Nat.reduceSub, Nat.succ_eq_add_one, Int.reduceAdd, Int.reduceMul,
  reduceIte, Bool.false_eq_true, Bool.not_true, Bool.not_false, ite_true, ite_false])
local macro_rules | `(tactic| walk_at "A.lop") => `(tactic| try simp only [decide_true, decide_false, aMtF, aFmt, aJs, aEqO, aNeO, aReprF, aRevT, aIsiT, aInt, aStrI, aEnum, aZip, aMulL, aCount, aAugS, aSetOf, aSrtSet, aSum, aDNew, aDIn, aDIx, aDPut, aLenD, aListD, aBits, aDsp1, aBool, aSorted, wipeA, aSeq, aNext, aSet, aVar, atV_s, onB_b, onI_i, onII_i, onL1_i, onL2_i, it_l, it_t, it_s, it_x, ix_l, ix_t, ix_s, add_i, add_x, eq_i, eq_x, eq_b, is_b, aC, aNil, aCons, aOp, aUn, aTup, aLst, aCB, aNot, aAnd, aOr, aTst, aIfE, aAndV, aOrV, aNotV, aChn, aDrop, aRet, aRetN, aIf, agName, agNil, agCons, agTup, aAsg, aPar, aAug, aFor, aRng1, aRng2, aIter, aLc, aYes,
  aCl, aMt, aMk, aFl, aFst, aNeg, aI2, aI20, aLe, aLt, aGt, aGe, aSub, aMod, aMul, aFdv, aPow, aXor, aShl, aShr, agSub, aoN, aoS, aSl, aRev, aLen, aList, aTupOf, aLRg1, aLRg2, aAbs, aI2N, aMax, aMin, aDm, aBM, aApp, aPopAt, aPop, aClear, aRevM, aExt, aClD, aLnSt, aIAdd, aBreak, aCont,
  aEnd, startA, List.map_cons, List.map_nil, List.cons_append, List.nil_append, List.length_cons, List.length_nil, List.replicate, List.getElem?_cons_zero, List.getElem?_cons_succ, List.set_cons_zero, List.set_cons_succ, Nat.reduceAdd, Nat.reduceSub, Nat.succ_eq_add_one, Int.reduceAdd, Int.reduceMul,
  reduceIte, Bool.false_eq_true, Bool.not_true, Bool.not_false, ite_true, ite_false])
def SetX (w : World) (h : Heap) (a : Addr) (S : Int → Bool) (n m d : Nat) : Prop :=
  ∃ o es ep t, h.get? a = some o ∧ o.ExactSet ∧ o.data = .set es ep t ∧ (∀ e ∈ es.toList, GoodE e) ∧ (es.toList.map keyOf).Nodup ∧ (∀ k, S k = true ↔ k ∈ es.toList.map keyOf) ∧
    es.size < scanBound ∧ t.fits es.size = true ∧ es.size = n ∧ Ris t.place.toList ∧ (w.params.followText "set-order" = true ∨ t.led = true) ∧ t.mask = m ∧ t.dummies.size ≤ d
theorem setX_R {w : World} {h : Heap} {a : Addr} {S : Int → Bool} {n m d : Nat} (X : SetX w h a S n m d) : SetR w h a S n := by
  obtain ⟨o, es, ep, t, h1, h2, h3, h4, h5, h6, h7, h8, h9, h10, h11, _⟩ := X
  exact ⟨o, es, ep, t, h1, h2, h3, h4, h5, h6, h7, h8, h9, h10, h11⟩
theorem setX_congr {w : World} {h : Heap} {a : Addr} {S S' : Int → Bool} {n m d : Nat} (X : SetX w h a S n m d) (e : ∀ k, S' k = S k) : SetX w h a S' n m d := by
  rw [show S' = S from funext e]
  exact X
theorem bits_small {k : Int} (h0 : 0 ≤ k) (h1 : k < 32) : SetTable.bits (hashInt k) < 32 := by
  obtain ⟨j, rfl⟩ : ∃ j : Nat, k = j := ⟨k.toNat, by omega⟩
  have hj : j < 32 := by omega
  have z : ∀ j, j < 32 → SetTable.bits (hashInt (j : Nat)) < 32 := by decide +kernel
  exact z j hj
def cpB2 : Bool := (List.range 32).all fun n => decide (SetTable.sizeAbove (n * 2) ≤ 64)
theorem cpB2_ok : cpB2 = true := by decide +kernel
theorem cp_line {n : Nat} (h : n < 32) : ¬ SetTable.sizeAbove (n * 2) > sizeLine := by
  have z := of_decide_eq_true (List.all_eq_true.mp cpB2_ok n (List.mem_range.mpr h))
  have : sizeLine ≥ 64 := by rw [sizeLine_eq]; decide
  omega
section
variable {P : Program} {w : World} {A : Around} {E : Value → Shared → Prop} {s : Shared} {a b r : Addr} {S T : Int → Bool} {n m : Nat}
/-- room for n in a fresh set -/
theorem room_of {Q : Unit → Shared → Prop} (hn : n < 32) (ho : s.heap.get? r = some (frO2 w))
    (q : ∀ h' ep ts, Heap.SameBut r s.heap h' → h'.get? r = some { frO2 w with data := .set #[] ep ts } → ts.mask = cpM n → ts.place = #[] → ts.dummies = #[] → (w.params.followText "set-order" = true ∨ ts.led = true) → Q () { s with heap := h' }) :
    wpAny (model P w) A (setRoomFor r n) Q E s := by
  unfold setRoomFor
  have hl : w.params.followText "set-order" = true ∨ (!w.params.followText "set-order") = true := by
    cases w.params.followText "set-order" with
    | true => exact .inl rfl
    | false => exact .inr rfl
  refine wpAny_bind (wpAny_setState_of ho rfl rfl ?_)
  dsimp only
  by_cases hc : n * 5 ≥ 21
  · have e : (SetTable.fresh 0 0 (!w.params.followText "set-order")).roomFor n = some (n * 2) := by
      unfold SetTable.roomFor
      have e1 : (SetTable.fresh 0 0 (!w.params.followText "set-order")).fill = 0 := rfl
      have e2 : (SetTable.fresh 0 0 (!w.params.followText "set-order")).place.size = 0 := rfl
      have e3 : (SetTable.fresh 0 0 (!w.params.followText "set-order")).mask = 7 := rfl
      rw [e1, e2, e3, if_pos (by omega)]
      congr 2
      omega
    rw [e]
    dsimp only
    unfold setRelay
    refine wpAny_bind (wpAny_setState_of ho rfl rfl ?_)
    dsimp only
    refine wp_if_neg (cp_line hn) ?_
    try refine wpAny_bind (wpAny_pure ?_)
    have cm : cpM n = SetTable.sizeAbove (n * 2) - 1 := by unfold cpM; rw [if_pos hc]
    obtain ⟨t2, order, l1, l2, l3, l4, l5, l6, l7⟩ := laid_ok (m := cpM n) (cp_ok hn).1 (fg := 0) (mv := (SetTable.fresh 0 0 (!w.params.followText "set-order")).movedTo (SetTable.sizeAbove (n * 2) - 1)) (led := !w.params.followText "set-order") (pl := true) (hs := #[]) (fun _ h => by cases h) (Nat.zero_le _)
    have oe : order = #[] := by
      have := l2.length_eq
      simpa using this
    subst oe
    refine wpAny_bind (wpAny_of_eq (a := (#[], t2)) ?_ ?_)
    · have e5 : SetTable.relaid (SetTable.fresh 0 0 (!w.params.followText "set-order")) (Array.map (fun x : Int × Value => x.1) #[]) (n * 2) = some (t2, #[]) := by
        unfold SetTable.relaid
        rw [← cm] at l1 ⊢
        have e6 : Array.map (fun x : Int × Value => x.1) #[] = #[] := by simp
        rw [e6]
        exact l1
      rw [e5]
      rfl
    · dsimp only
      refine wpAny_storeSet_of ho rfl ?_ (Nat.zero_le _)
      have pe : t2.place = #[] := by simpa using l4
      exact q _ _ t2 (Heap.SameBut.update s.heap r _) (store_at ho rfl) l6 pe l5 (hl.imp id fun z => by rw [l7]; exact z)
  · have e : (SetTable.fresh 0 0 (!w.params.followText "set-order")).roomFor n = none := by
      unfold SetTable.roomFor
      have e1 : (SetTable.fresh 0 0 (!w.params.followText "set-order")).fill = 0 := rfl
      have e3 : (SetTable.fresh 0 0 (!w.params.followText "set-order")).mask = 7 := rfl
      rw [e1, e3, if_neg (by omega)]
    rw [e]
    dsimp only
    exact wpAny_pure (q s.heap 0 (SetTable.fresh 0 0 (!w.params.followText "set-order")) (Heap.SameBut.refl _ _) ho (by unfold cpM; rw [if_neg hc]; rfl) rfl rfl hl)
end
end A

namespace A
open PySem PySem.Spec L2 PyProof.Rows
local macro_rules | `(tactic| walk_at "A.go") => `(tactic| simp only [aSeq, aNext, aSet, aVar, atV_s, onB_b, onI_i, onII_i, onL1_i, onL2_i, it_l, it_t, it_s, it_x, ix_l, ix_t, ix_s, add_i, add_x, eq_i, eq_x, eq_b, is_b, aC, aNil, aCons, aOp, aUn, aTup, aLst, aCB, aNot, aAnd, aOr, aTst, aIfE, aAndV, aOrV, aNotV, aChn, aDrop, aRet, aRetN, aIf, agName, agNil, agCons, agTup, aAsg, aPar, aAug, aFor, aRng1, aRng2, aIter, aLc, aYes,
  aCl, aMt, aMk, aFl, aFst, aNeg, aI2, aI20, aLe, aLt, aGt, aGe, aSub, aMod, aMul, aFdv, aPow, aXor, aShl, aShr, agSub, aoN, aoS, aSl, aRev, aLen, aList, aTupOf, aLRg1, aLRg2, aAbs, aI2N, aMax, aMin, aDm, aAll, aAny, aBM, aApp, aPopAt, aPop, aClear, aRevM, aExt, aRepr, aClD, aLnSt, aIAdd, aBreak, aCont,
  aEnd, startA, List.map_cons, List.map_nil, List.cons_append, List.nil_append, List.length_cons, List.length_nil, List.replicate, List.getElem?_cons_zero, List.getElem?_cons_succ, List.set_cons_zero, List.set_cons_succ, Nat.reduceAdd, Nat.reduceSub, Nat.succ_eq_add_one, Int.reduceAdd, Int.reduceMul,
  reduceIte, Bool.false_eq_true, Bool.not_true, Bool.not_false, ite_true, ite_false])
local macro_rules | `(tactic| walk_at "A.hop") => `(tactic| try simp only [aMtF, aFmt, aJs, aEqO, aNeO, aReprF, aRevT, aIsiT, aInt, aStrI, aEnum, aZip, aMulL, aCount, aAugS, aSetOf, aSrtSet, aSum, aDNew, aDIn, aDIx, aDPut, aLenD, aListD, aBits, aDsp1, aBool, aSorted, wipeA, aSeq, aNext, aSet, aVar, atV_s, onB_b, onI_i, onII_i, onL1_i, onL2_i, it_l, it_t, it_s, it_x, ix_l, ix_t, ix_s, add_i, add_x, eq_i, eq_x, eq_b, is_b, aC, aNil, aCons, aOp, aUn, aTup, aLst, aCB, aNot, aAnd, aOr, aTst, aIfE, aAndV, aOrV, aNotV, aChn, aDrop, aRet, aRetN, aIf, agName, agNil, agCons, agTup, aAsg, aPar, aAug, aFor, aRng1, aRng2, aIter, aLc, aYes,
  aCl, aMt, aMk, aFl, aFst, aNeg, aI2, aI20, aLe, aLt, aGt, aGe, aSub, aMod, aMul, aFdv, aPow, aXor, aShl, aShr, agSub, aoN, aoS, aSl, aRev, aLen, aList, aTupOf, aLRg1, aLRg2, aAbs, aI2N, aMax, aMin, aDm, aAll, aAny, aBM, aApp, aPopAt, aPop, aClear, aRevM, aExt, aRepr, aClD, aLnSt, aIAdd, aBreak, aCont,
  aEnd, startA, List.map_cons, List.map_nil, List.cons_append, List.nil_append, List.length_cons, List.length_nil, List.replicate, List.getElem?_cons_zero, List.getElem?_cons_succ, List.set_cons_zero, List.set_cons_succ, Nat.reduceAdd, Nat.reduceSub, Nat.succ_eq_add_one, Int.reduceAdd, Int.reduceMul,
  reduceIte, Bool.false_eq_true, Bool.not_true, Bool.not_false, ite_true, ite_false])
local macro_rules | `(tactic| walk_at "A.lop") => `(tactic| try simp only [decide_true, decide_false, aMtF, aFmt, aJs, aEqO, aNeO, aReprF, aRevT, aIsiT, aInt, aStrI, aEnum, aZip, aMulL, aCount, aAugS, aSetOf, aSrtSet, aSum, aDNew, aDIn, aDIx, aDPut, aLenD, aListD, aBits, aDsp1, aBool, aSorted, wipeA, aSeq, aNext, aSet, aVar, atV_s, onB_b, onI_i, onII_i, onL1_i, onL2_i, it_l, it_t, it_s, it_x, ix_l, ix_t, ix_s, add_i, add_x, eq_i, eq_x, eq_b, is_b, aC, aNil, aCons, aOp, aUn, aTup, aLst, aCB, aNot, aAnd, aOr, aTst, aIfE, aAndV, aOrV, aNotV, aChn, aDrop, aRet, aRetN, aIf, agName, agNil, agCons, agTup, aAsg, aPar, aAug, aFor, aRng1, aRng2, aIter, aLc, aYes,
  aCl, aMt, aMk, aFl, aFst, aNeg, aI2, aI20, aLe, aLt, aGt, aGe, aSub, aMod, aMul, aFdv, aPow, aXor, aShl, aShr, agSub, aoN, aoS, aSl, aRev, aLen, aList, aTupOf, aLRg1, aLRg2, aAbs, aI2N, aMax, aMin, aDm, aBM, aApp, aPopAt, aPop, aClear, aRevM, aExt, aClD, aLnSt, aIAdd, aBreak, aCont,
  aEnd, startA, List.map_cons, List.map_nil, List.cons_append, List.nil_append, List.length_cons, List.length_nil, List.replicate, List.getElem?_cons_zero, List.getElem?_cons_succ, List.set_cons_zero, List.set_cons_succ, Nat.reduceAdd, Nat.reduceSub, Nat.succ_eq_add_one, Int.reduceAdd, Int.reduceMul,
  reduceIte, Bool.false_eq_true, Bool.not_true, Bool.not_false, ite_true, ite_false])
section
variable {P : Program} {w : World} {A : Around} {E : Value → Shared → Prop} {s : Shared} {a b r : Addr} {S T : Int → Bool} {n m : Nat}
theorem fits_zero {t : SetTable} {n : Nat} (h1 : t.place.size = n) (h2 : t.dummies = #[]) (h3 : n ≤ t.mask) : t.fits n = true := by
  unfold SetTable.fits SetTable.fill
  rw [h1, h2]
  simpa using h3
/-- a fresh set takes another one's elements -/
theorem merge_of {Q : Unit → Shared → Prop} (ho : s.heap.get? r = some (frO2 w)) (RS : SetR w s.heap a S n) (ne : a ≠ r) (hn : n < 32) (hs : ∀ k, S k = true → 0 ≤ k ∧ k < 32)
    (q : ∀ h', Heap.SameBut r s.heap h' → SetX w h' r S n (cpM n) 0 → Q () { s with heap := h' }) : wpAny (model P w) A (setMerge r a) Q E s := by
  have hl : w.params.followText "set-order" = true ∨ (!w.params.followText "set-order") = true := by
    cases w.params.followText "set-order" with
    | true => exact .inl rfl
    | false => exact .inr rfl
  obtain ⟨o, es, ep, t, hoa, hx, hd, g, nd, hm, hb, hf, hnn, hr, hla⟩ := RS
  subst hnn
  have hbits : ∀ h ∈ (es.map (·.1)).toList, SetTable.bits h < 32 := by
    intro h hh
    rw [Array.toList_map] at hh
    obtain ⟨e, he, rfl⟩ := List.mem_map.mp hh
    obtain ⟨k, tk, e1, e2⟩ := g e he
    have : S k = true := (hm k).mpr (List.mem_map.mpr ⟨e, he, by unfold keyOf; rw [e1]⟩)
    rw [e2]
    exact bits_small (hs k this).1 (hs k this).2
  unfold setMerge
  refine wp_if_neg (by simpa using fun e => ne e.symm) ?_
  try refine wpAny_bind (wpAny_pure ?_)
  refine wpAny_bind (wpAny_setState_of hoa hd hf ?_)
  dsimp only
  by_cases he : es.isEmpty = true
  · refine wp_if_pos he ?_
    have e0 : es = #[] := Array.isEmpty_iff.mp he
    subst e0
    refine wpAny_pure (q s.heap (Heap.SameBut.refl _ _) ⟨_, _, _, _, ho, ⟨rfl, rfl, rfl⟩, rfl, g, nd, hm, hb, rfl, rfl, ?_, hl, rfl, Nat.zero_le _⟩)
    exact List.Pairwise.nil
  · refine wp_if_neg he ?_
    try refine wpAny_bind (wpAny_pure ?_)
    refine wpAny_bind (room_of hn ho fun h1 ep1 ts sb1 ho1 m1 p1 d1 l1 => ?_)
    have fz : ts.fits (#[] : Array (Int × Value)).size = true := fits_zero (by rw [p1]; rfl) d1 (Nat.zero_le _)
    refine wpAny_bind (wpAny_setState_of (s := { s with heap := h1 }) ho1 rfl fz ?_)
    dsimp only
    have hfill : ts.fill = 0 := by unfold SetTable.fill; rw [p1, d1]; rfl
    by_cases hc : (ts.mask == t.mask && t.dummies.isEmpty) = true
    · have er : ts.road t = .slotForSlot := by
        unfold SetTable.road
        rw [hfill]
        simp only [bne_self_eq_false, Bool.false_eq_true, ↓reduceIte]
        rw [if_pos hc]
      rw [er]
      dsimp only
      rw [Bool.and_eq_true, beq_iff_eq] at hc
      refine wpAny_storeSet_of (s := { s with heap := h1 }) ho1 rfl ?_ (fits_of_scanBound hb)
      refine q _ (sb1.trans (Heap.SameBut.update h1 r _)) ⟨_, es, _, _, store_at ho1 rfl, ⟨rfl, rfl, rfl⟩, rfl, g, nd, hm, hb, hf, rfl, hr, ?_, ?_, ?_⟩
      · rcases l1 with z | z
        · exact .inl z
        · rcases hla with y | y
          · exact .inl y
          · exact .inr (by show (ts.led && t.led) = true; rw [z, y]; rfl)
      · show t.mask = _
        rw [← hc.1, m1]
      · show t.dummies.size ≤ 0
        rw [Array.isEmpty_iff.mp hc.2]
        exact Nat.le_refl _
    · have er : ts.road t = .clean := by
        unfold SetTable.road
        rw [hfill]
        simp only [bne_self_eq_false, Bool.false_eq_true, ↓reduceIte]
        rw [if_neg hc]
      rw [er]
      dsimp only
      obtain ⟨t2, order, e1, e2, e3, e4, e5, e6, e7⟩ := laid_ok (m := ts.mask) (by rw [m1]; exact (cp_ok hn).1) (fg := ts.finger) (mv := ts.moves) (led := ts.led && t.led) (pl := ts.plain && t.plain) hbits
        (by rw [Array.size_map, m1]; exact (cp_ok hn).2)
      rw [Array.size_map] at e2 e4
      have pe := es_perm e2
      have sz : (order.filterMap (es[·]?)).size = es.size := by rw [← Array.length_toList, pe.length_eq, Array.length_toList]
      refine wpAny_bind (wpAny_of_eq (a := (order.filterMap (es[·]?), t2)) ?_ ?_)
      · rw [e1]
        show (if ((order.filterMap (es[·]?)).size != es.size) = true then _ else _) = _
        rw [if_neg (by rw [sz]; simp)]
      · dsimp only
        have hb2 : (order.filterMap (es[·]?)).size < scanBound := by rw [sz]; exact hb
        refine wpAny_storeSet_of (s := { s with heap := h1 }) ho1 rfl ?_ (fits_of_scanBound hb2)
        refine q _ (sb1.trans (Heap.SameBut.update h1 r _)) ⟨_, _, _, _, store_at ho1 rfl, ⟨rfl, rfl, rfl⟩, rfl, fun e he => g e (pe.mem_iff.mp he), (pe.map keyOf).nodup_iff.mpr nd, fun k => (hm k).trans (pe.map keyOf).mem_iff.symm, hb2, ?_, sz, e3, ?_, ?_, ?_⟩
        · exact fits_zero (by rw [e4, sz]) e5 (by rw [sz, e6, m1]; exact (cp_ok hn).2)
        · rcases l1 with z | z
          · exact .inl z
          · rcases hla with y | y
            · exact .inl y
            · exact .inr (by rw [e7, z, y]; rfl)
        · rw [e6, m1]
        · rw [e5]
          exact Nat.le_refl _
theorem copy_of {Q : Value → Shared → Prop} (RS : SetR w s.heap a S n) (hn : n < 32) (hs : ∀ k, S k = true → 0 ≤ k ∧ k < 32)
    (q : ∀ h', (∀ x o, s.heap.get? x = some o → h'.get? x = some o) → SetX w h' s.heap.objs.size S n (cpM n) 0 → Q (.ref s.heap.objs.size) { s with heap := h' }) : wpAny (model P w) A (Builtin.Frozenset.copyOf a) Q E s := by
  unfold Builtin.Frozenset.copyOf
  refine wpAny_bind (base_of (setR_ty RS) ?_)
  refine wpAny_bind (new_of fun h1 k1 z1 R1 e1 => ?_)
  refine wpAny_bind (m := Builtin.Frozenset.addrOf (.ref _)) (wpAny_pure ?_)
  have ne : a ≠ s.heap.objs.size := Nat.ne_of_lt RS.lt
  refine wpAny_bind (merge_of (s := { s with heap := h1 }) (by rw [e1]; exact Heap.get?_push_size _ rfl) (RS.at (k1 a)) ne hn hs fun h2 sb X => ?_)
  exact wpAny_pure (q h2 (fun x o e => sb.extBut x o (Nat.ne_of_lt (Heap.lt_size e)) (k1 x o e)) X)
end
end A

namespace A
open PySem PySem.Spec L2 PyProof.Rows
local macro_rules | `(tactic| walk_at "A.go") => `(tactic| simp only [aSeq, aNext, aSet, aVar, atV_s, onB_b, onI_i, onII_i, onL1_i, onL2_i, it_l, it_t, it_s, it_x, ix_l, ix_t, ix_s, add_i, add_x, eq_i, eq_x, eq_b, is_b, aC, aNil, aCons, aOp, aUn, aTup, aLst, aCB, aNot, aAnd, aOr, aTst, aIfE, aAndV, aOrV, aNotV, aChn, aDrop, aRet, aRetN, aIf, agName, agNil, agCons, agTup, aAsg, aPar, aAug, aFor, aRng1, aRng2, aIter, aLc, aYes,
  aCl, aMt, aMk, aFl, aFst, aNeg, aI2, aI20, aLe, aLt, aGt, aGe, aSub, aMod, aMul, aFdv, aPow, aXor, aShl, aShr, agSub, aoN, aoS, aSl, aRev, aLen, aList, aTupOf, aLRg1, aLRg2, aAbs, aI2N, aMax, aMin, aDm, aAll, aAny, aBM, aApp, aPopAt, aPop, aClear, aRevM, aExt, aRepr, aClD, aLnSt, aIAdd, aBreak, aCont,
  aEnd, startA, List.map_cons, List.map_nil, List.cons_append, List.nil_append, List.length_cons, List.length_nil, List.replicate, List.getElem?_cons_zero, List.getElem?_cons_succ, List.set_cons_zero, List.set_cons_succ, Nat.reduceAdd, Nat.reduceSub, Nat.succ_eq_add_one, Int.reduceAdd, Int.reduceMul,
  reduceIte, Bool.false_eq_true, Bool.not_true, Bool.not_false, ite_true, ite_false])
local macro_rules | `(tactic| walk_at "A.hop") => `(tactic| try simp only [aMtF, aFmt, aJs, aEqO, aNeO, aReprF, aRevT, aIsiT, aInt, aStrI, aEnum, aZip, aMulL, aCount, aAugS, aSetOf, aSrtSet, aSum, aDNew, aDIn, aDIx, aDPut, aLenD, aListD, aBits, aDsp1, aBool, aSorted, wipeA, aSeq, aNext, aSet, aVar, atV_s, onB_b, onI_i, onII_i, onL1_i, onL2_i, it_l, it_t, it_s, it_x, ix_l, ix_t, ix_s, add_i, add_x, eq_i, eq_x, eq_b, is_b, aC, aNil, aCons, aOp, aUn, aTup, aLst, aCB, aNot, aAnd, aOr, aTst, aIfE, aAndV, aOrV, aNotV, aChn, aDrop, aRet, aRetN, aIf, agName, agNil, agCons, agTup, aAsg, aPar, aAug, aFor, aRng1, aRng2, aIter, aLc, aYes,
  aCl, aMt, aMk, aFl, aFst, aNeg, aI2, aI20, aLe, aLt, aGt, aGe, aSub, aMod, aMul, aFdv, aPow, aXor, aShl, aShr, agSub, aoN, aoS, aSl, aRev, aLen, aList, aTupOf, aLRg1, aLRg2, aAbs, aI2N, aMax, aMin, aDm, aAll, aAny, aBM, aApp, aPopAt, aPop, aClear, aRevM, aExt, aRepr, aClD, aLnSt, aIAdd, aBreak, aCont,
  aEnd, startA, List.map_cons, List.map_nil, List.cons_append, List.nil_append, List.length_cons, List.length_nil, List.replicate, List.getElem?_cons_zero, List.getElem?_cons_succ, List.set_cons_zero, List.set_cons_succ, Nat.reduceAdd, Nat.reduceSub, Nat.succ_eq_add_one, Int.reduceAdd, Int.reduceMul,
  reduceIte, Bool.false_eq_true, Bool.not_true, Bool.not_false, ite_true, ite_false])
local macro_rules | `(tactic| walk_at "A.lop") => `(tactic| try simp only [decide_true, decide_false, aMtF, aFmt, aJs, aEqO, aNeO, aReprF, aRevT, aIsiT, aInt, aStrI, aEnum, aZip, aMulL, aCount, aAugS, aSetOf, aSrtSet, aSum, aDNew, aDIn, aDIx, aDPut, aLenD, aListD, aBits, aDsp1, aBool, aSorted, wipeA, aSeq, aNext, aSet, aVar, atV_s, onB_b, onI_i, onII_i, onL1_i, onL2_i, it_l, it_t, it_s, it_x, ix_l, ix_t, ix_s, add_i, add_x, eq_i, eq_x, eq_b, is_b, aC, aNil, aCons, aOp, aUn, aTup, aLst, aCB, aNot, aAnd, aOr, aTst, aIfE, aAndV, aOrV, aNotV, aChn, aDrop, aRet, aRetN, aIf, agName, agNil, agCons, agTup, aAsg, aPar, aAug, aFor, aRng1, aRng2, aIter, aLc, aYes,
  aCl, aMt, aMk, aFl, aFst, aNeg, aI2, aI20, aLe, aLt, aGt, aGe, aSub, aMod, aMul, aFdv, aPow, aXor, aShl, aShr, agSub, aoN, aoS, aSl, aRev, aLen, aList, aTupOf, aLRg1, aLRg2, aAbs, aI2N, aMax, aMin, aDm, aBM, aApp, aPopAt, aPop, aClear, aRevM, aExt, aClD, aLnSt, aIAdd, aBreak, aCont,
  aEnd, startA, List.map_cons, List.map_nil, List.cons_append, List.nil_append, List.length_cons, List.length_nil, List.replicate, List.getElem?_cons_zero, List.getElem?_cons_succ, List.set_cons_zero, List.set_cons_succ, Nat.reduceAdd, Nat.reduceSub, Nat.succ_eq_add_one, Int.reduceAdd, Int.reduceMul,
  reduceIte, Bool.false_eq_true, Bool.not_true, Bool.not_false, ite_true, ite_false])
theorem insAt_size {α : Type} (xs : Array α) (p : Nat) (x : α) : (SetTable.insertAt xs p x).size = xs.size + 1 := by
  have := (SetTable.insertAt_perm xs p x).length_eq
  simpa using this
theorem delAt_list {α : Type} (xs : Array α) (p : Nat) : (SetTable.eraseAt xs p).toList = xs.toList.eraseIdx p := by
  unfold SetTable.eraseAt
  rw [Array.toList_append, Array.toList_extract, Array.toList_extract, List.eraseIdx_eq_take_drop_succ]
  simp only [List.extract_eq_drop_take, List.drop_zero, Nat.sub_zero]
  congr 1
  refine List.take_of_length_le ?_
  rw [List.length_drop, Array.length_toList]
  exact Nat.le_refl _
theorem er_map {α β : Type} (f : α → β) : ∀ (l : List α) (i : Nat), (l.eraseIdx i).map f = (l.map f).eraseIdx i
  | [], i => by simp
  | x :: r, 0 => by simp
  | x :: r, i + 1 => by simp [er_map f r i]
theorem mem_er {k j : Int} : ∀ (L : List Int) (i : Nat), L.Nodup → L[i]? = some k → (j ∈ L.eraseIdx i ↔ j ∈ L ∧ ¬ j = k)
  | [], i, _, h => by cases i <;> cases h
  | x :: r, 0, nd, h => by
    have e : x = k := by simpa using h
    subst e
    have nx := (List.nodup_cons.mp nd).1
    simp only [List.eraseIdx_cons_zero, List.mem_cons]
    constructor
    · intro hj
      exact ⟨.inr hj, fun e => nx (e ▸ hj)⟩
    · rintro ⟨h1 | h1, h2⟩
      · exact absurd h1 h2
      · exact h1
  | x :: r, i + 1, nd, h => by
    have nx := (List.nodup_cons.mp nd).1
    have ih := mem_er (j := j) r i (List.nodup_cons.mp nd).2 (by simpa using h)
    have kr : k ∈ r := List.mem_of_getElem? (by simpa using h)
    simp only [List.eraseIdx_cons_succ, List.mem_cons, ih]
    constructor
    · rintro (h1 | ⟨h1, h2⟩)
      · exact ⟨.inl h1, fun e => nx (by rw [← h1, e]; exact kr)⟩
      · exact ⟨.inr h1, h2⟩
    · rintro ⟨h1 | h1, h2⟩
      · exact .inl h1
      · exact .inr ⟨h1, h2⟩
section
variable {P : Program} {w : World} {A : Around} {E : Value → Shared → Prop} {s : Shared} {a b r : Addr} {S T : Int → Bool} {n m d : Nat}
theorem discard_of {k : Int} {tk : Tok} {h : Int} {Q : Bool → Shared → Prop} (eh : h = hashInt k) (X : SetX w s.heap a S n m d)
    (q : ∀ h' n' x, Heap.SameBut a s.heap h' → SetX w h' a (fun j => S j && !decide (j = k)) n' m (d + 1) → Q x { s with heap := h' }) :
    wpAny (model P w) A (setDiscardHashed a (.int k tk) h) Q E s := by
  have X0 := X
  obtain ⟨o, es, ep, t, ho, hex, hd, g, nd, hm, hb, hf, hn, hr, hl, hmk, hdm⟩ := X
  have hel : ElemsOf (intKind P w) es.toList := good_elems g
  unfold setDiscardHashed setFind setFindIn
  refine wpAny_bind (wpAny_bind (wpAny_setState_of ho hd hf ?_))
  dsimp only
  rw [byScan_of rfl hb hel]
  simp only [↓reduceIte]
  subst eh
  refine wpAny_bind (wpAny_rule ?_)
  refine wpAny_bind (wpAny_setScan_of (knd := intKind P w) (k := k) (intKind_is P w k tk) ho hd hf hel ?_)
  cases hfi : List.findIdx? (fun e => (intKind P w).is k e.2) es.toList with
  | none =>
    dsimp only
    refine wpAny_pure (wpAny_pure ?_)
    have hnk : k ∉ es.toList.map keyOf := fun z => by
      obtain ⟨e, he, q⟩ := (good_mem (P := P) (w := w) g k).1 z
      have c := List.findIdx?_eq_none_iff.mp hfi e he
      rw [q] at c
      cases c
    refine q s.heap n _ (Heap.SameBut.refl _ _) (setX_congr (S := S) ⟨o, es, ep, t, ho, hex, hd, g, nd, hm, hb, hf, hn, hr, hl, hmk, by omega⟩ fun j => ?_)
    by_cases ej : j = k
    · subst ej
      cases eS : S j with
      | false => rfl
      | true => exact absurd ((hm j).mp eS) hnk
    · rw [decide_eq_false ej]
      simp
  | some i =>
    dsimp only
    obtain ⟨hi, pi, _⟩ := List.findIdx?_eq_some_iff_getElem.mp hfi
    rw [Nat.zero_add]
    refine wpAny_pure ?_
    dsimp only
    refine wpAny_bind (wpAny_setState_of ho hd hf ?_)
    dsimp only
    have hi2 : i < es.size := by rw [← Array.length_toList]; exact hi
    have fz : t.place.size = es.size ∧ t.fill ≤ t.mask := by
      unfold SetTable.fits at hf
      rw [Bool.and_eq_true, beq_iff_eq, decide_eq_true_eq] at hf
      exact hf
    have ep1 : t.place[i]? = some t.place[i] := Array.getElem?_eq_getElem (by rw [fz.1]; exact hi2)
    have ed : t.drop i = { t with place := SetTable.eraseAt t.place i, dummies := SetTable.insertAt t.dummies (SetTable.below t.dummies (t.place[i]'(by rw [fz.1]; exact hi2))) (t.place[i]'(by rw [fz.1]; exact hi2)) } := by
      unfold SetTable.drop
      rw [ep1]
    rw [ed]
    have esz : (SetTable.eraseAt es i).size = es.size - 1 := by rw [← Array.length_toList, delAt_list, List.length_eraseIdx_of_lt hi, Array.length_toList]
    have psz : (SetTable.eraseAt t.place i).size = es.size - 1 := by rw [← Array.length_toList, delAt_list, List.length_eraseIdx_of_lt (by rw [Array.length_toList, fz.1]; exact hi2), Array.length_toList, fz.1]
    have hb2 : (SetTable.eraseAt es i).size < scanBound := by rw [esz]; omega
    refine wpAny_bind (wpAny_storeSet_of ho hd ?_ (fits_of_scanBound hb2))
    refine wpAny_bind (wpAny_point ?_)
    refine wpAny_pure ?_
    have kk : keyOf es.toList[i] = k := (good_is (g _ (List.getElem_mem hi)) k).1 pi
    have mp : ((es.toList.eraseIdx i).map keyOf) = (es.toList.map keyOf).eraseIdx i := er_map keyOf _ _
    refine q _ (n - 1) _ (Heap.SameBut.update s.heap a _) ⟨_, _, _, _, store_at ho hd, hex, rfl, fun e he => ?_, ?_, fun j => ?_, hb2, ?_, by rw [esz, hn], ?_, hl, hmk, ?_⟩
    · rw [delAt_list] at he
      exact g e (List.mem_of_mem_eraseIdx he)
    · rw [delAt_list, mp]
      exact nd.sublist (List.eraseIdx_sublist _ _)
    · rw [delAt_list, mp, Bool.and_eq_true, hm j, Bool.not_eq_true', decide_eq_false_iff_not]
      have hk : (es.toList.map keyOf)[i]? = some k := by rw [List.getElem?_map, List.getElem?_eq_getElem hi, Option.map_some, kk]
      exact (mem_er _ i nd hk).symm
    · unfold SetTable.fits SetTable.fill
      rw [psz, esz, insAt_size]
      have := fz.2
      unfold SetTable.fill at this
      rw [fz.1] at this
      simp only [beq_self_eq_true, Bool.true_and, decide_eq_true_eq]
      omega
    · show Ris (SetTable.eraseAt t.place i).toList
      rw [delAt_list]
      exact List.Pairwise.sublist (List.eraseIdx_sublist _ _) hr
    · show (SetTable.insertAt t.dummies _ _).size ≤ d + 1
      rw [insAt_size]
      omega
end
end A

namespace A
open PySem PySem.Spec L2 PyProof.Rows
local macro_rules | `(tactic| walk_at "A.go") => `(tactic| simp only [aSeq, aNext, aSet, aVar, atV_s, onB_b, onI_i, onII_i, onL1_i, onL2_i, it_l, it_t, it_s, it_x, ix_l, ix_t, ix_s, add_i, add_x, eq_i, eq_x, eq_b, is_b, aC, aNil, aCons, aOp, aUn, aTup, aLst, aCB, aNot, aAnd, aOr, aTst, aIfE, aAndV, aOrV, aNotV, aChn, aDrop, aRet, aRetN, aIf, agName, agNil, agCons, agTup, aAsg, aPar, aAug, aFor, aRng1, aRng2, aIter, aLc, aYes,
  aCl, aMt, aMk, aFl, aFst, aNeg, aI2, aI20, aLe, aLt, aGt, aGe, aSub, aMod, aMul, aFdv, aPow, aXor, aShl, aShr, agSub, aoN, aoS, aSl, aRev, aLen, aList, aTupOf, aLRg1, aLRg2, aAbs, aI2N, aMax, aMin, aDm, aAll, aAny, aBM, aApp, aPopAt, aPop, aClear, aRevM, aExt, aRepr, aClD, aLnSt, aIAdd, aBreak, aCont,
  aEnd, startA, List.map_cons, List.map_nil, List.cons_append, List.nil_append, List.length_cons, List.length_nil, List.replicate, List.getElem?_cons_zero, List.getElem?_cons_succ, List.set_cons_zero, List.set_cons_succ, Nat.reduceAdd, Nat.reduceSub, Nat.succ_eq_add_one, Int.reduceAdd, Int.reduceMul,
  reduceIte, Bool.false_eq_true, Bool.not_true, Bool.not_false, ite_true, ite_false])
local macro_rules | `(tactic| walk_at "A.hop") => `(tactic| try simp only [aMtF, aFmt, aJs, aEqO, aNeO, aReprF, aRevT, aIsiT, aInt, aStrI, aEnum, aZip, aMulL, aCount, aAugS, aSetOf, aSrtSet, aSum, aDNew, aDIn, aDIx, aDPut, aLenD, aListD, aBits, aDsp1, aBool, aSorted, wipeA, aSeq, aNext, aSet, aVar, atV_s, onB_b, onI_i, onII_i, onL1_i, onL2_i, it_l, it_t, it_s, it_x, ix_l, ix_t, ix_s, add_i, add_x, eq_i, eq_x, eq_b, is_b, aC, aNil, aCons, aOp, aUn, aTup, aLst, aCB, aNot, aAnd, aOr, aTst, aIfE, aAndV, aOrV, aNotV, aChn, aDrop, aRet, aRetN, aIf, agName, agNil, agCons, agTup, aAsg, aPar, aAug, aFor, aRng1, aRng2, aIter, aLc, aYes,
  aCl, aMt, aMk, aFl, aFst, aNeg, aI2, aI20, aLe, aLt, aGt, aGe, aSub, aMod, aMul, aFdv, aPow, aXor, aShl, aShr, agSub, aoN, aoS, aSl, aRev, aLen, aList, aTupOf, aLRg1, aLRg2, aAbs, aI2N, aMax, aMin, aDm, aAll, aAny, aBM, aApp, aPopAt, aPop, aClear, aRevM, aExt, aRepr, aClD, aLnSt, aIAdd, aBreak, aCont,
  aEnd, startA, List.map_cons, List.map_nil, List.cons_append, List.nil_append, List.length_cons, List.length_nil, List.replicate, List.getElem?_cons_zero, List.getElem?_cons_succ, List.set_cons_zero, List.set_cons_succ, Nat.reduceAdd, Nat.reduceSub, Nat.succ_eq_add_one, Int.reduceAdd, Int.reduceMul,
  reduceIte, Bool.false_eq_true, Bool.not_true, Bool.not_false, ite_true, ite_false])
local macro_rules | `(tactic| walk_at "A.lop") => `(tactic| try simp only [decide_true, decide_false, aMtF, aFmt, aJs, aEqO, aNeO, aReprF, aRevT, aIsiT, aInt, aStrI, aEnum, aZip, aMulL, aCount, aAugS, aSetOf, aSrtSet, aSum, aDNew, aDIn, aDIx, aDPut, aLenD, aListD, aBits, aDsp1, aBool, aSorted, wipeA, aSeq, aNext, aSet, aVar, atV_s, onB_b, onI_i, onII_i, onL1_i, onL2_i, it_l, it_t, it_s, it_x, ix_l, ix_t, ix_s, add_i, add_x, eq_i, eq_x, eq_b, is_b, aC, aNil, aCons, aOp, aUn, aTup, aLst, aCB, aNot, aAnd, aOr, aTst, aIfE, aAndV, aOrV, aNotV, aChn, aDrop, aRet, aRetN, aIf, agName, agNil, agCons, agTup, aAsg, aPar, aAug, aFor, aRng1, aRng2, aIter, aLc, aYes,
  aCl, aMt, aMk, aFl, aFst, aNeg, aI2, aI20, aLe, aLt, aGt, aGe, aSub, aMod, aMul, aFdv, aPow, aXor, aShl, aShr, agSub, aoN, aoS, aSl, aRev, aLen, aList, aTupOf, aLRg1, aLRg2, aAbs, aI2N, aMax, aMin, aDm, aBM, aApp, aPopAt, aPop, aClear, aRevM, aExt, aClD, aLnSt, aIAdd, aBreak, aCont,
  aEnd, startA, List.map_cons, List.map_nil, List.cons_append, List.nil_append, List.length_cons, List.length_nil, List.replicate, List.getElem?_cons_zero, List.getElem?_cons_succ, List.set_cons_zero, List.set_cons_succ, Nat.reduceAdd, Nat.reduceSub, Nat.succ_eq_add_one, Int.reduceAdd, Int.reduceMul,
  reduceIte, Bool.false_eq_true, Bool.not_true, Bool.not_false, ite_true, ite_false])
section
variable {P : Program} {w : World} {A : Around} {E : Value → Shared → Prop} {s : Shared} {a b r : Addr} {S T : Int → Bool} {n m k : Nat}
theorem ref_ne {a b : Addr} (h : a ≠ b) : (Value.ref a == Value.ref b) = false := by
  simpa using h
theorem diff_upd {id : String} {Q : Unit → Shared → Prop} (X : SetX w s.heap r S n m 0) (RT : SetR w s.heap b T k) (ne : b ≠ r) (h8 : ¬ k / 8 > n) (hk : k ≤ m / 4)
    (q : ∀ h' n', Heap.SameBut r s.heap h' → SetR w h' r (fun j => S j && !T j) n' → Q () { s with heap := h' }) : wpAny (model P w) A (Builtin.Frozenset.differenceUpdate id r (.ref b)) Q E s := by
  unfold Builtin.Frozenset.differenceUpdate
  refine wp_if_neg (by rw [ref_ne ne]; exact Bool.false_ne_true) ?_
  try refine wpAny_bind (wpAny_pure ?_)
  refine wpAny_bind (any_set (setR_ty RT) ?_)
  simp only [↓reduceIte]
  refine wpAny_bind (m := Builtin.Frozenset.addrOf (.ref b)) (wpAny_pure ?_)
  refine wpAny_bind (size_of RT ?_)
  refine wpAny_bind (size_of (setX_R X) ?_)
  refine wp_if_neg h8 ?_
  try refine wpAny_bind (wpAny_pure ?_)
  have RT0 := RT
  obtain ⟨o, es, ep, t, ho, hx, hdt, g, nd, hm, hb, hf, hnn, _⟩ := RT0
  refine wpAny_bind (epoch_of ho hdt hf ?_)
  refine wpAny_bind (wpAny_holding ?_)
  refine wpAny_bind (walkU_none RT (fun x hx => ?_) fun es2 el => ?_)
  · simp only [List.mem_cons, List.not_mem_nil, or_false] at hx
    subst hx
    exact ⟨_, _, setX_R X⟩
  refine wpAny_bind (MeetsSeq2.wpAny_forIn_array _ (fun rest _ s' => ∃ h' n' d, s' = { s with heap := h' } ∧ Heap.SameBut r s.heap h' ∧
    SetX w h' r (fun j => S j && !(T j && !decide (j ∈ rest.map keyOf))) n' m d ∧ d + rest.length ≤ k ∧ (∀ e ∈ rest, GoodE e ∧ T (keyOf e) = true) ∧ (rest.map keyOf).Nodup) _ ?turn ?fin es2 _ ?ini)
  case ini =>
    refine ⟨s.heap, n, 0, rfl, Heap.SameBut.refl _ _, setX_congr X fun j => ?_, by rw [el.2.2.2]; omega, fun e he => ⟨el.1 e he, (el.2.2.1 _).mpr (List.mem_map_of_mem he)⟩, el.2.1⟩
    cases e : T j with
    | false => simp
    | true =>
      rw [decide_eq_true ((el.2.2.1 j).mp e)]
      simp
  case fin =>
    rintro u s' ⟨h', n', d, rfl, sb, X', hd, _⟩
    refine wpAny_pure ?_
    try refine wpAny_pure ?_
    have R' := setX_R X'
    obtain ⟨o2, es3, ep2, t2, ho2, hex2, hd2, g2, nd2, hm2, hb2, hf2, hn2, hr2, hl2, hmk2, hdm2⟩ := X'
    unfold setTidy
    refine wpAny_bind (wpAny_setState_of (s := { s with heap := h' }) ho2 hd2 hf2 ?_)
    dsimp only
    have nt : t2.tooManyDummies = false := by
      unfold SetTable.tooManyDummies
      refine decide_eq_false ?_
      rw [hmk2]
      simp only [List.length_nil] at hd
      omega
    refine wp_if_neg (by rw [nt]; exact Bool.false_ne_true) ?_
    refine wpAny_pure (q h' n' sb (R'.congr fun j => by simp))
  case turn =>
    rintro e rest u s' ⟨h', n', d, rfl, sb, X', hd, hg, hnd⟩
    obtain ⟨⟨v, tk, e1, e2⟩, eT⟩ := hg e List.mem_cons_self
    obtain ⟨eh, ev⟩ := e
    simp only at e1 e2
    subst e1
    have ek : keyOf (eh, Value.int v tk) = v := rfl
    rw [ek] at eT
    rw [List.map_cons, ek] at hnd
    rw [List.length_cons] at hd
    dsimp only
    have ho3 := sb.extBut b o ne ho
    have hg' : ∀ e ∈ rest, GoodE e ∧ T (keyOf e) = true := fun y hy => hg y (List.mem_cons_of_mem _ hy)
    refine wpAny_bind (wpAny_holding ?_)
    refine discard_of (s := { s with heap := h' }) e2 X' fun h4 n4 x sb4 X4 => ?_
    have ho4 := sb4.extBut b o ne ho3
    refine wpAny_bind (unchanged_of (s := { s with heap := h4 }) ho4 hdt hf (wpAny_pure ?_))
    refine ⟨h4, n4, d + 1, rfl, sb.trans sb4, setX_congr X4 fun j => ?_, by omega, hg', (List.nodup_cons.mp hnd).2⟩
    rw [List.map_cons, ek]
    by_cases ej : j = v
    · subst ej
      have := (List.nodup_cons.mp hnd).1
      rw [eT, decide_eq_false this]
      simp
    · rw [dec_cons ej, decide_eq_false ej]
      simp
theorem cpM_four {n k : Nat} (hn : n < 32) (h : n / 4 > k) : k ≤ cpM n / 4 := by
  have := (cp_ok hn).2
  have : n / 4 ≤ cpM n / 4 := Nat.div_le_div_right this
  omega
/-- s - t, both sets of ints, s of small ones -/
theorem diff_of {id : String} {Q : Value → Shared → Prop} (RS : SetR w s.heap a S n) (RT : SetR w s.heap b T m) (hn : n < 32) (hs : ∀ k, S k = true → 0 ≤ k ∧ k < 32)
    (q : ∀ h' c, (∀ x o, s.heap.get? x = some o → h'.get? x = some o) → SetR w h' s.heap.objs.size (fun k => S k && !T k) c → Q (.ref s.heap.objs.size) { s with heap := h' }) :
    wpAny (model P w) A (Builtin.Frozenset.difference id a (.ref b)) Q E s := by
  by_cases hd : n / 4 > m
  · unfold Builtin.Frozenset.difference
    dsimp only
    refine wpAny_bind (any_set (setR_ty RT) ?_)
    simp only [Bool.not_true, Bool.false_eq_true, ↓reduceIte, Bool.false_and]
    refine wpAny_bind (m := Builtin.Frozenset.addrOf (.ref b)) (wpAny_pure ?_)
    try refine wpAny_bind (wpAny_pure ?_)
    refine wpAny_bind (size_of RT ?_)
    refine wpAny_bind (size_of RS ?_)
    refine wp_if_pos hd ?_
    refine wpAny_bind (wpAny_rule ?_)
    refine wpAny_bind (copy_of RS hn hs fun h1 k1 X1 => ?_)
    refine wpAny_bind (m := Builtin.Frozenset.addrOf (.ref _)) (wpAny_pure ?_)
    refine wpAny_bind (wpAny_holding ?_)
    have RT1 : SetR w h1 b T m := RT.at (k1 b)
    refine diff_upd (s := { s with heap := h1 }) X1 RT1 (Nat.ne_of_lt RT.lt) (by omega) (cpM_four hn hd) fun h2 n2 sb R2 => ?_
    refine wpAny_pure ?_
    exact q h2 n2 (fun x o e => sb.extBut x o (Nat.ne_of_lt (Heap.lt_size e)) (k1 x o e)) R2
  · refine diff_direct RS RT (by unfold scanBound; omega) hd q
end
end A

namespace A
open PySem PySem.Spec L2 PyProof.Rows
local macro_rules | `(tactic| walk_at "A.go") => `(tactic| simp only [aSeq, aNext, aSet, aVar, atV_s, onB_b, onI_i, onII_i, onL1_i, onL2_i, it_l, it_t, it_s, it_x, ix_l, ix_t, ix_s, add_i, add_x, eq_i, eq_x, eq_b, is_b, aC, aNil, aCons, aOp, aUn, aTup, aLst, aCB, aNot, aAnd, aOr, aTst, aIfE, aAndV, aOrV, aNotV, aChn, aDrop, aRet, aRetN, aIf, agName, agNil, agCons, agTup, aAsg, aPar, aAug, aFor, aRng1, aRng2, aIter, aLc, aYes,
  aCl, aMt, aMk, aFl, aFst, aNeg, aI2, aI20, aLe, aLt, aGt, aGe, aSub, aMod, aMul, aFdv, aPow, aXor, aShl, aShr, agSub, aoN, aoS, aSl, aRev, aLen, aList, aTupOf, aLRg1, aLRg2, aAbs, aI2N, aMax, aMin, aDm, aAll, aAny, aBM, aApp, aPopAt, aPop, aClear, aRevM, aExt, aRepr, aClD, aLnSt, aIAdd, aBreak, aCont,
  aEnd, startA, List.map_cons, List.map_nil, List.cons_append, List.nil_append, List.length_cons, List.length_nil, List.replicate, List.getElem?_cons_zero, List.getElem?_cons_succ, List.set_cons_zero, List.set_cons_succ, Nat.reduceAdd, Nat.reduceSub, Nat.succ_eq_add_one, Int.reduceAdd, Int.reduceMul,
  reduceIte, Bool.false_eq_true, Bool.not_true, Bool.not_false, ite_true, ite_false])
local macro_rules | `(tactic| walk_at "A.hop") => `(tactic| try simp only [aMtF, aFmt, aJs, aEqO, aNeO, aReprF, aRevT, aIsiT, aInt, aStrI, aEnum, aZip, aMulL, aCount, aAugS, aSetOf, aSrtSet, aSum, aDNew, aDIn, aDIx, aDPut, aLenD, aListD, aBits, aDsp1, aBool, aSorted, wipeA, aSeq, aNext, aSet, aVar, atV_s, onB_b, onI_i, onII_i, onL1_i, onL2_i, it_l, it_t, it_s, it_x, ix_l, ix_t, ix_s, add_i, add_x, eq_i, eq_x, eq_b, is_b, aC, aNil, aCons, aOp, aUn, aTup, aLst, aCB, aNot, aAnd, aOr, aTst, aIfE, aAndV, aOrV, aNotV, aChn, aDrop, aRet, aRetN, aIf, agName, agNil, agCons, agTup, aAsg, aPar, aAug, aFor, aRng1, aRng2, aIter, aLc, aYes,
  aCl, aMt, aMk, aFl, aFst, aNeg, aI2, aI20, aLe, aLt, aGt, aGe, aSub, aMod, aMul, aFdv, aPow, aXor, aShl, aShr, agSub, aoN, aoS, aSl, aRev, aLen, aList, aTupOf, aLRg1, aLRg2, aAbs, aI2N, aMax, aMin, aDm, aAll, aAny, aBM, aApp, aPopAt, aPop, aClear, aRevM, aExt, aRepr, aClD, aLnSt, aIAdd, aBreak, aCont,
  aEnd, startA, List.map_cons, List.map_nil, List.cons_append, List.nil_append, List.length_cons, List.length_nil, List.replicate, List.getElem?_cons_zero, List.getElem?_cons_succ, List.set_cons_zero, List.set_cons_succ, Nat.reduceAdd, Nat.reduceSub, Nat.succ_eq_add_one, Int.reduceAdd, Int.reduceMul,
  reduceIte, Bool.false_eq_true, Bool.not_true, Bool.not_false, ite_true, ite_false])
local macro_rules | `(tactic| walk_at "A.lop") => `(tactic| try simp only [decide_true, decide_false, aMtF, aFmt, aJs, aEqO, aNeO, aReprF, aRevT, aIsiT, aInt, aStrI, aEnum, aZip, aMulL, aCount, aAugS, aSetOf, aSrtSet, aSum, aDNew, aDIn, aDIx, aDPut, aLenD, aListD, aBits, aDsp1, aBool, aSorted, wipeA, aSeq, aNext, aSet, aVar, atV_s, onB_b, onI_i, onII_i, onL1_i, onL2_i, it_l, it_t, it_s, it_x, ix_l, ix_t, ix_s, add_i, add_x, eq_i, eq_x, eq_b, is_b, aC, aNil, aCons, aOp, aUn, aTup, aLst, aCB, aNot, aAnd, aOr, aTst, aIfE, aAndV, aOrV, aNotV, aChn, aDrop, aRet, aRetN, aIf, agName, agNil, agCons, agTup, aAsg, aPar, aAug, aFor, aRng1, aRng2, aIter, aLc, aYes,
  aCl, aMt, aMk, aFl, aFst, aNeg, aI2, aI20, aLe, aLt, aGt, aGe, aSub, aMod, aMul, aFdv, aPow, aXor, aShl, aShr, agSub, aoN, aoS, aSl, aRev, aLen, aList, aTupOf, aLRg1, aLRg2, aAbs, aI2N, aMax, aMin, aDm, aBM, aApp, aPopAt, aPop, aClear, aRevM, aExt, aClD, aLnSt, aIAdd, aBreak, aCont,
  aEnd, startA, List.map_cons, List.map_nil, List.cons_append, List.nil_append, List.length_cons, List.length_nil, List.replicate, List.getElem?_cons_zero, List.getElem?_cons_succ, List.set_cons_zero, List.set_cons_succ, Nat.reduceAdd, Nat.reduceSub, Nat.succ_eq_add_one, Int.reduceAdd, Int.reduceMul,
  reduceIte, Bool.false_eq_true, Bool.not_true, Bool.not_false, ite_true, ite_false])
section
variable {P : Program} {w : World} {A : Around} {E : Value → Shared → Prop} {s : Shared} {a b r : Addr} {S T : Int → Bool} {n m k : Nat}
end
end A

/-! ## set - set, set & set: small ints -/
namespace A
open PySem PySem.Spec L2 PyProof.Rows
local macro_rules | `(tactic| walk_at "A.go") => `(tactic| simp only [aSeq, aNext, aSet, aVar, atV_s, onB_b, onI_i, onII_i, onL1_i, onL2_i, it_l, it_t, it_s, it_x, ix_l, ix_t, ix_s, add_i, add_x, eq_i, eq_x, eq_b, is_b, aC, aNil, aCons, aOp, aUn, aTup, aLst, aCB, aNot, aAnd, aOr, aTst, aIfE, aAndV, aOrV, aNotV, aChn, aDrop, aRet, aRetN, aIf, agName, agNil, agCons, agTup, aAsg, aPar, aAug, aFor, aRng1, aRng2, aIter, aLc, aYes,
  aCl, aMt, aMk, aFl, aFst, aNeg, aI2, aI20, aLe, aLt, aGt, aGe, aSub, aMod, aMul, aFdv, aPow, aXor, aShl, aShr, agSub, aoN, aoS, aSl, aRev, aLen, aList, aTupOf, aLRg1, aLRg2, aAbs, aI2N, aMax, aMin, aDm, aAll, aAny, aBM, aApp, aPopAt, aPop, aClear, aRevM, aExt, aRepr, aClD, aLnSt, aIAdd, aBreak, aCont,
  aEnd, startA, List.map_cons, List.map_nil, List.cons_append, List.nil_append, List.length_cons, List.length_nil, List.replicate, List.getElem?_cons_zero, List.getElem?_cons_succ, List.set_cons_zero, List.set_cons_succ, Nat.reduceAdd, Nat.reduceSub, Nat.succ_eq_add_one, Int.reduceAdd, Int.reduceMul,
  reduceIte, Bool.false_eq_true, Bool.not_true, Bool.not_false, ite_true, ite_false])
local macro_rules | `(tactic| walk_at "A.hop") => `(tactic| try simp only [aMtF, aFmt, aJs, aEqO, aNeO, aReprF, aRevT, aIsiT, aInt, aStrI, aEnum, aZip, aMulL, aCount, aAugS, aSetOf, aSrtSet, aSum, aDNew, aDIn, aDIx, aDPut, aLenD, aListD, aBits, aDsp1, aBool, aSorted, wipeA, aSeq, aNext, aSet, aVar, atV_s, onB_b, onI_i, onII_i, onL1_i, onL2_i, it_l, it_t, it_s, it_x, ix_l, ix_t, ix_s, add_i, add_x, eq_i, eq_x, eq_b, is_b, aC, aNil, aCons, aOp, aUn, aTup, aLst, aCB, aNot, aAnd, aOr, aTst, aIfE, aAndV, aOrV, aNotV, aChn, aDrop, aRet, aRetN, aIf, agName, agNil, agCons, agTup, aAsg, aPar, aAug, aFor, aRng1, aRng2, aIter, aLc, aYes,
  aCl, aMt, aMk, aFl, aFst, aNeg, aI2, aI20, aLe, aLt, aGt, aGe, aSub, aMod, aMul, aFdv, aPow, aXor, aShl, aShr, agSub, aoN, aoS, aSl, aRev, aLen, aList, aTupOf, aLRg1, aLRg2, aAbs, aI2N, aMax, aMin, aDm, aAll, aAny, aBM, aApp, aPopAt, aPop, aClear, aRevM, aExt, aRepr, aClD, aLnSt, aIAdd, aBreak, aCont,
  aEnd, startA, List.map_cons, List.map_nil, List.cons_append, List.nil_append, List.length_cons, List.length_nil, List.replicate, List.getElem?_cons_zero, List.getElem?_cons_succ, List.set_cons_zero, List.set_cons_succ, Nat.reduceAdd, Nat.reduceSub, Nat.succ_eq_add_one, Int.reduceAdd, Int.reduceMul,
  reduceIte, Bool.false_eq_true, Bool.not_true, Bool.not_false, ite_true, ite_false])
local macro_rules | `(tactic| walk_at "A.lop") => `(tactic| try simp only [decide_true, decide_false, aMtF, aFmt, aJs, aEqO, aNeO, aReprF, aRevT, aIsiT, aInt, aStrI, aEnum, aZip, aMulL, aCount, aAugS, aSetOf, aSrtSet, aSum, aDNew, aDIn, aDIx, aDPut, aLenD, aListD, aBits, aDsp1, aBool, aSorted, wipeA, aSeq, aNext, aSet, aVar, atV_s, onB_b, onI_i, onII_i, onL1_i, onL2_i, it_l, it_t, it_s, it_x, ix_l, ix_t, ix_s, add_i, add_x, eq_i, eq_x, eq_b, is_b, aC, aNil, aCons, aOp, aUn, aTup, aLst, aCB, aNot, aAnd, aOr, aTst, aIfE, aAndV, aOrV, aNotV, aChn, aDrop, aRet, aRetN, aIf, agName, agNil, agCons, agTup, aAsg, aPar, aAug, aFor, aRng1, aRng2, aIter, aLc, aYes,
  aCl, aMt, aMk, aFl, aFst, aNeg, aI2, aI20, aLe, aLt, aGt, aGe, aSub, aMod, aMul, aFdv, aPow, aXor, aShl, aShr, agSub, aoN, aoS, aSl, aRev, aLen, aList, aTupOf, aLRg1, aLRg2, aAbs, aI2N, aMax, aMin, aDm, aBM, aApp, aPopAt, aPop, aClear, aRevM, aExt, aClD, aLnSt, aIAdd, aBreak, aCont,
  aEnd, startA, List.map_cons, List.map_nil, List.cons_append, List.nil_append, List.length_cons, List.length_nil, List.replicate, List.getElem?_cons_zero, List.getElem?_cons_succ, List.set_cons_zero, List.set_cons_succ, Nat.reduceAdd, Nat.reduceSub, Nat.succ_eq_add_one, Int.reduceAdd, Int.reduceMul,
  reduceIte, Bool.false_eq_true, Bool.not_true, Bool.not_false, ite_true, ite_false])
theorem entry_s_sub : entryFor table "set.__sub__" = some Builtin.«frozenset.__sub__» :=
  entryFor_alias (id' := "frozenset.__sub__") (by kernel_rfl) rfl (by decide +kernel) (by kernel_rfl)
section
variable {P : Program} {w : World} {A : Around} {E : Value → Shared → Prop} {s : Shared} {a b r : Addr} {S T : Int → Bool} {n m k : Nat}
theorem sets_both {f : String → Addr → Value → Sem Value} {id : String} {Q : Value → Shared → Prop} (ha : s.TypeIs (.ref a) "set") (hb : s.TypeIs (.ref b) "set") (h : wpAny (model P w) A (f id a (.ref b)) Q E s) (ms : Sem Unit) :
    wpAny (model P w) A (do
      if !(← Builtin.Frozenset.isAnySet (.ref a) <&&> Builtin.Frozenset.isAnySet (.ref b)) then ms; return ← PySem.ret .notImplemented
      PySem.ret (← f id (← Builtin.Frozenset.addrOf (.ref a)) (.ref b))) (fun fin s' => ∃ v, fin = .done (.ret v) ∧ Q v s') E s := by
  refine wpAny_bind (wpAny_bind (any_set ha (any_set hb ?_)))
  simp only [Bool.not_true, Bool.false_eq_true, ↓reduceIte]
  refine wpAny_bind (m := Builtin.Frozenset.addrOf (.ref a)) (wpAny_pure ?_)
  refine wpAny_bind (wpAny_mono h (fun v s' q => ?_) fun _ _ x => x)
  exact wpAny_pure ⟨v, rfl, q⟩
theorem sub_sets {Q : Value → Shared → Prop} (RS : SetR w s.heap a S n) (RT : SetR w s.heap b T m) (hn : n < 32) (hs : ∀ k, S k = true → 0 ≤ k ∧ k < 32)
    (q : ∀ h' c, (∀ x o, s.heap.get? x = some o → h'.get? x = some o) → SetR w h' s.heap.objs.size (fun k => S k && !T k) c → Q (.ref s.heap.objs.size) { s with heap := h' }) :
    wpAny (model P w) A (binaryOp .Sub (.ref a) (.ref b)) Q E s := by
  refine wpAny_binaryOp_same (T := "set") (id := "set.__sub__") (setR_ty RS) (setR_ty RT) F.fills_set_sub F.slot_set_sub ?_
  refine wpAny_call_entry F.slot_set_sub (setR_ty RS) entry_s_sub ?_ (F.args_set_sub_2 _ _)
  exact sets_both (setR_ty RS) (setR_ty RT) (diff_of RS RT hn hs fun h' c k R => ⟨by simp, q h' c k R⟩) _
end
section
variable {X : Cx}
def rSets (f : Bool → Bool → Bool) (K : PySem.W.Frag) (w : World) : R2 := fun x y H Q => ∃ (a b : Addr) (S T : Int → Bool) (n m : Nat), x = .ref a ∧ y = .ref b ∧ H a = some (SetO w a S n) ∧ H b = some (SetO w b T m) ∧ n < 32 ∧ m < 32 ∧ (∀ k, S k = true → 0 ≤ k ∧ k < 32) ∧
  ∀ (p : Addr) (l : List Int), H p = none → l.Nodup → (∀ k, k ∈ l ↔ f (S k) (T k) = true) → Q (.ref p) (upd H p (SetO w p (fun i => decide (i ∈ l)) l.length))
theorem laid_set {pins : List (Addr × Obj)} {σ : St} {H : Hp} {s : Shared} {h' : Heap} {U : Int → Bool} {c : Nat} {Q : VK} (I : Inv X pins σ H s) (k : ∀ x o, s.heap.get? x = some o → h'.get? x = some o) (R : SetR X.w h' s.heap.objs.size U c)
    (q : ∀ (p : Addr) (l : List Int), H p = none → l.Nodup → (∀ k, k ∈ l ↔ U k = true) → Q (.ref p) (upd H p (SetO X.w p (fun i => decide (i ∈ l)) l.length))) :
    ∃ x H', Inv X pins σ H' { s with heap := h' } ∧ RelV x (.ref s.heap.objs.size) ∧ Q x H' := by
  obtain ⟨l, nd, mem, ln⟩ := setR_list R
  have R2 : SetR X.w h' s.heap.objs.size (fun i => decide (i ∈ l)) l.length := by
    rw [ln]
    exact R.congr fun j => by
      cases e : U j with
      | true => exact decide_eq_true ((mem j).mpr e)
      | false => exact decide_eq_false fun z => by rw [(mem j).mp z] at e; cases e
  exact ⟨.ref _, upd H s.heap.objs.size (SetO X.w s.heap.objs.size (fun i => decide (i ∈ l)) l.length), I.laid (t' := s.toks) k (Nat.le_refl _) (setO_new R2), rfl, q _ l (I.hok.fresh (Nat.le_refl _)) nd mem⟩
theorem op_subS : OpR X (binaryOp .Sub) (rSets (fun x y => x && !y) X.K X.w) := by
  intro pins s σ H x y v u Q I rx ry h
  obtain ⟨a, b, S, T, n, m, rfl, rfl, ha, hb, hn, hm, hs, q⟩ := h
  cases rx
  cases ry
  exact sub_sets (setO_get I ha) (setO_get I hb) hn hs fun h' c k R => laid_set I k R q
def aSets (p : Int → List Int → Prop) : O2 := fun d e S Q => ∃ l1 l2 : List Int, d = .set l1 ∧ e = .set l2 ∧ l1.length < 32 ∧ l2.length < 32 ∧ (∀ k ∈ l1, 0 ≤ k ∧ k < 32) ∧ ∀ l : List Int, l.Nodup → (∀ k, k ∈ l ↔ k ∈ l1 ∧ p k l2) → Q (.set l) S
theorem k_sets {f : Bool → Bool → Bool} {p : Int → List Int → Prop} (hf : ∀ (l1 l2 : List Int) (k : Int), f (decide (k ∈ l1)) (decide (k ∈ l2)) = true ↔ k ∈ l1 ∧ p k l2) : R2k X.kw (rSets f X.K X.w) (aSets p) := by
  rintro x y d e H F S R Q P T dx dy ⟨l1, l2, rfl, rfl, h1, h2, h3, q⟩ po
  cases dx with
  | set hF nd =>
    cases dy with
    | set hF2 nd2 =>
      refine ⟨_, _, _, _, _, _, rfl, rfl, T.le _ _ hF, T.le _ _ hF2, h1, h2, fun k hk => h3 k (of_decide_eq_true hk), fun p l hp nd mem => ?_⟩
      obtain ⟨fF, _, _⟩ := T.free hp
      exact po _ _ _ S (.set l) (same_upd fF) (T.frozen hp) (.set upd_same nd) (q l nd fun k => (mem k).trans (hf l1 l2 k))
abbrev aSubS : O2 := aSets fun k l => ¬ k ∈ l
theorem o_subS : OpA X (binaryOp .Sub) (rSets (fun x y => x && !y) X.K X.w) aSubS := ⟨op_subS, k_sets fun l1 l2 k => by simp⟩
end
end A
namespace A
open PySem PySem.Spec L2 PyProof.Rows
local macro_rules | `(tactic| walk_at "A.go") => `(tactic| simp only [aSeq, aNext, aSet, aVar, atV_s, onB_b, onI_i, onII_i, onL1_i, onL2_i, it_l, it_t, it_s, it_x, ix_l, ix_t, ix_s, add_i, add_x, eq_i, eq_x, eq_b, is_b, aC, aNil, aCons, aOp, aUn, aTup, aLst, aCB, aNot, aAnd, aOr, aTst, aIfE, aAndV, aOrV, aNotV, aChn, aDrop, aRet, aRetN, aIf, agName, agNil, agCons, agTup, aAsg, aPar, aAug, aFor, aRng1, aRng2, aIter, aLc, aYes,
  aCl, aMt, aMk, aFl, aFst, aNeg, aI2, aI20, aLe, aLt, aGt, aGe, aSub, aMod, aMul, aFdv, aPow, aXor, aShl, aShr, agSub, aoN, aoS, aSl, aRev, aLen, aList, aTupOf, aLRg1, aLRg2, aAbs, aI2N, aMax, aMin, aDm, aAll, aAny, aBM, aApp, aPopAt, aPop, aClear, aRevM, aExt, aRepr, aClD, aLnSt, aIAdd, aBreak, aCont,
  aEnd, startA, List.map_cons, List.map_nil, List.cons_append, List.nil_append, List.length_cons, List.length_nil, List.replicate, List.getElem?_cons_zero, List.getElem?_cons_succ, List.set_cons_zero, List.set_cons_succ, Nat.reduceAdd, Nat.reduceSub, Nat.succ_eq_add_one, Int.reduceAdd, Int.reduceMul,
  reduceIte, Bool.false_eq_true, Bool.not_true, Bool.not_false, ite_true, ite_false])
local macro_rules | `(tactic| walk_at "A.hop") => `(tactic| try simp only [aMtF, aFmt, aJs, aEqO, aNeO, aReprF, aRevT, aIsiT, aInt, aStrI, aEnum, aZip, aMulL, aCount, aAugS, aSetOf, aSrtSet, aSum, aDNew, aDIn, aDIx, aDPut, aLenD, aListD, aBits, aDsp1, aBool, aSorted, wipeA, aSeq, aNext, aSet, aVar, atV_s, onB_b, onI_i, onII_i, onL1_i, onL2_i, it_l, it_t, it_s, it_x, ix_l, ix_t, ix_s, add_i, add_x, eq_i, eq_x, eq_b, is_b, aC, aNil, aCons, aOp, aUn, aTup, aLst, aCB, aNot, aAnd, aOr, aTst, aIfE, aAndV, aOrV, aNotV, aChn, aDrop, aRet, aRetN, aIf, agName, agNil, agCons, agTup, aAsg, aPar, aAug, aFor, aRng1, aRng2, aIter, aLc, aYes,
  aCl, aMt, aMk, aFl, aFst, aNeg, aI2, aI20, aLe, aLt, aGt, aGe, aSub, aMod, aMul, aFdv, aPow, aXor, aShl, aShr, agSub, aoN, aoS, aSl, aRev, aLen, aList, aTupOf, aLRg1, aLRg2, aAbs, aI2N, aMax, aMin, aDm, aAll, aAny, aBM, aApp, aPopAt, aPop, aClear, aRevM, aExt, aRepr, aClD, aLnSt, aIAdd, aBreak, aCont,
  aEnd, startA, List.map_cons, List.map_nil, List.cons_append, List.nil_append, List.length_cons, List.length_nil, List.replicate, List.getElem?_cons_zero, List.getElem?_cons_succ, List.set_cons_zero, List.set_cons_succ, Nat.reduceAdd, Nat.reduceSub, Nat.succ_eq_add_one, Int.reduceAdd, Int.reduceMul,
  reduceIte, Bool.false_eq_true, Bool.not_true, Bool.not_false, ite_true, ite_false])
local macro_rules | `(tactic| walk_at "A.lop") => `(tactic| try simp only [decide_true, decide_false, aMtF, aFmt, aJs, aEqO, aNeO, aReprF, aRevT, aIsiT, aInt, aStrI, aEnum, aZip, aMulL, aCount, aAugS, aSetOf, aSrtSet, aSum, aDNew, aDIn, aDIx, aDPut, aLenD, aListD, aBits, aDsp1, aBool, aSorted, wipeA, aSeq, aNext, aSet, aVar, atV_s, onB_b, onI_i, onII_i, onL1_i, onL2_i, it_l, it_t, it_s, it_x, ix_l, ix_t, ix_s, add_i, add_x, eq_i, eq_x, eq_b, is_b, aC, aNil, aCons, aOp, aUn, aTup, aLst, aCB, aNot, aAnd, aOr, aTst, aIfE, aAndV, aOrV, aNotV, aChn, aDrop, aRet, aRetN, aIf, agName, agNil, agCons, agTup, aAsg, aPar, aAug, aFor, aRng1, aRng2, aIter, aLc, aYes,
  aCl, aMt, aMk, aFl, aFst, aNeg, aI2, aI20, aLe, aLt, aGt, aGe, aSub, aMod, aMul, aFdv, aPow, aXor, aShl, aShr, agSub, aoN, aoS, aSl, aRev, aLen, aList, aTupOf, aLRg1, aLRg2, aAbs, aI2N, aMax, aMin, aDm, aBM, aApp, aPopAt, aPop, aClear, aRevM, aExt, aClD, aLnSt, aIAdd, aBreak, aCont,
  aEnd, startA, List.map_cons, List.map_nil, List.cons_append, List.nil_append, List.length_cons, List.length_nil, List.replicate, List.getElem?_cons_zero, List.getElem?_cons_succ, List.set_cons_zero, List.set_cons_succ, Nat.reduceAdd, Nat.reduceSub, Nat.succ_eq_add_one, Int.reduceAdd, Int.reduceMul,
  reduceIte, Bool.false_eq_true, Bool.not_true, Bool.not_false, ite_true, ite_false])
section
variable {X : Cx} {W : WX} {pos : Pos} {a b c : Expr} {ta tb tc : TE} {aa ab ac : AE}
end
end A

/-! ## d == {}, d != {}, del d[k] -/
namespace A
open PySem PySem.Spec L2 PyProof.Rows
local macro_rules | `(tactic| walk_at "A.go") => `(tactic| simp only [aSeq, aNext, aSet, aVar, atV_s, onB_b, onI_i, onII_i, onL1_i, onL2_i, it_l, it_t, it_s, it_x, ix_l, ix_t, ix_s, add_i, add_x, eq_i, eq_x, eq_b, is_b, aC, aNil, aCons, aOp, aUn, aTup, aLst, aCB, aNot, aAnd, aOr, aTst, aIfE, aAndV, aOrV, aNotV, aChn, aDrop, aRet, aRetN, aIf, agName, agNil, agCons, agTup, aAsg, aPar, aAug, aFor, aRng1, aRng2, aIter, aLc, aYes,
  aCl, aMt, aMk, aFl, aFst, aNeg, aI2, aI20, aLe, aLt, aGt, aGe, aSub, aMod, aMul, aFdv, aPow, aXor, aShl, aShr, agSub, aoN, aoS, aSl, aRev, aLen, aList, aTupOf, aLRg1, aLRg2, aAbs, aI2N, aMax, aMin, aDm, aAll, aAny, aBM, aApp, aPopAt, aPop, aClear, aRevM, aExt, aRepr, aClD, aLnSt, aIAdd, aBreak, aCont,
  aEnd, startA, List.map_cons, List.map_nil, List.cons_append, List.nil_append, List.length_cons, List.length_nil, List.replicate, List.getElem?_cons_zero, List.getElem?_cons_succ, List.set_cons_zero, List.set_cons_succ, Nat.reduceAdd, Nat.reduceSub, Nat.succ_eq_add_one, Int.reduceAdd, Int.reduceMul,
  reduceIte, Bool.false_eq_true, Bool.not_true, Bool.not_false, ite_true, ite_false])
local macro_rules | `(tactic| walk_at "A.hop") => `(tactic| try simp only [aMtF, aFmt, aJs, aEqO, aNeO, aReprF, aRevT, aIsiT, aInt, aStrI, aEnum, aZip, aMulL, aCount, aAugS, aSetOf, aSrtSet, aSum, aDNew, aDIn, aDIx, aDPut, aLenD, aListD, aBits, aDsp1, aBool, aSorted, wipeA, aSeq, aNext, aSet, aVar, atV_s, onB_b, onI_i, onII_i, onL1_i, onL2_i, it_l, it_t, it_s, it_x, ix_l, ix_t, ix_s, add_i, add_x, eq_i, eq_x, eq_b, is_b, aC, aNil, aCons, aOp, aUn, aTup, aLst, aCB, aNot, aAnd, aOr, aTst, aIfE, aAndV, aOrV, aNotV, aChn, aDrop, aRet, aRetN, aIf, agName, agNil, agCons, agTup, aAsg, aPar, aAug, aFor, aRng1, aRng2, aIter, aLc, aYes,
  aCl, aMt, aMk, aFl, aFst, aNeg, aI2, aI20, aLe, aLt, aGt, aGe, aSub, aMod, aMul, aFdv, aPow, aXor, aShl, aShr, agSub, aoN, aoS, aSl, aRev, aLen, aList, aTupOf, aLRg1, aLRg2, aAbs, aI2N, aMax, aMin, aDm, aAll, aAny, aBM, aApp, aPopAt, aPop, aClear, aRevM, aExt, aRepr, aClD, aLnSt, aIAdd, aBreak, aCont,
  aEnd, startA, List.map_cons, List.map_nil, List.cons_append, List.nil_append, List.length_cons, List.length_nil, List.replicate, List.getElem?_cons_zero, List.getElem?_cons_succ, List.set_cons_zero, List.set_cons_succ, Nat.reduceAdd, Nat.reduceSub, Nat.succ_eq_add_one, Int.reduceAdd, Int.reduceMul,
  reduceIte, Bool.false_eq_true, Bool.not_true, Bool.not_false, ite_true, ite_false])
local macro_rules | `(tactic| walk_at "A.lop") => `(tactic| try simp only [decide_true, decide_false, aMtF, aFmt, aJs, aEqO, aNeO, aReprF, aRevT, aIsiT, aInt, aStrI, aEnum, aZip, aMulL, aCount, aAugS, aSetOf, aSrtSet, aSum, aDNew, aDIn, aDIx, aDPut, aLenD, aListD, aBits, aDsp1, aBool, aSorted, wipeA, aSeq, aNext, aSet, aVar, atV_s, onB_b, onI_i, onII_i, onL1_i, onL2_i, it_l, it_t, it_s, it_x, ix_l, ix_t, ix_s, add_i, add_x, eq_i, eq_x, eq_b, is_b, aC, aNil, aCons, aOp, aUn, aTup, aLst, aCB, aNot, aAnd, aOr, aTst, aIfE, aAndV, aOrV, aNotV, aChn, aDrop, aRet, aRetN, aIf, agName, agNil, agCons, agTup, aAsg, aPar, aAug, aFor, aRng1, aRng2, aIter, aLc, aYes,
  aCl, aMt, aMk, aFl, aFst, aNeg, aI2, aI20, aLe, aLt, aGt, aGe, aSub, aMod, aMul, aFdv, aPow, aXor, aShl, aShr, agSub, aoN, aoS, aSl, aRev, aLen, aList, aTupOf, aLRg1, aLRg2, aAbs, aI2N, aMax, aMin, aDm, aBM, aApp, aPopAt, aPop, aClear, aRevM, aExt, aClD, aLnSt, aIAdd, aBreak, aCont,
  aEnd, startA, List.map_cons, List.map_nil, List.cons_append, List.nil_append, List.length_cons, List.length_nil, List.replicate, List.getElem?_cons_zero, List.getElem?_cons_succ, List.set_cons_zero, List.set_cons_succ, Nat.reduceAdd, Nat.reduceSub, Nat.succ_eq_add_one, Int.reduceAdd, Int.reduceMul,
  reduceIte, Bool.false_eq_true, Bool.not_true, Bool.not_false, ite_true, ite_false])
section
variable {X : Cx}
end
/-! ### del -/
def dropA (m : List (Key × D)) (k : Key) : List (Key × D) := m.filter fun p => decide (p.1 ≠ k)
theorem DvP.drop {K : KW} {F : Hp} {k : Key} : ∀ {l : List (Key × V)} {m : List (Key × D)}, DvP K F l m → DvP K F (dropK l k) (dropA m k)
  | _, _, .nil => .nil
  | (k1, v) :: l, (k2, d) :: m, .cons h t => by
    have e : k1 = k2 := h.1
    subst e
    unfold dropK dropA
    rw [List.filter_cons, List.filter_cons]
    by_cases z : k1 = k
    · simp only [z, ne_eq, not_true_eq_false, decide_false, Bool.false_eq_true, if_false]
      exact DvP.drop t
    · simp only [z, ne_eq, not_false_eq_true, decide_true, if_true]
      exact .cons h (DvP.drop t)
section
variable {X : Cx} {W : WX} {o i : Expr} {to ti : TE} {ao ai : AE} {pos tpos : Pos}
end
end A

namespace A
open PySem PySem.Spec L2 PyProof.Rows
local macro_rules | `(tactic| walk_at "A.go") => `(tactic| simp only [aSeq, aNext, aSet, aVar, atV_s, onB_b, onI_i, onII_i, onL1_i, onL2_i, it_l, it_t, it_s, it_x, ix_l, ix_t, ix_s, add_i, add_x, eq_i, eq_x, eq_b, is_b, aC, aNil, aCons, aOp, aUn, aTup, aLst, aCB, aNot, aAnd, aOr, aTst, aIfE, aAndV, aOrV, aNotV, aChn, aDrop, aRet, aRetN, aIf, agName, agNil, agCons, agTup, aAsg, aPar, aAug, aFor, aRng1, aRng2, aIter, aLc, aYes,
  aCl, aMt, aMk, aFl, aFst, aNeg, aI2, aI20, aLe, aLt, aGt, aGe, aSub, aMod, aMul, aFdv, aPow, aXor, aShl, aShr, agSub, aoN, aoS, aSl, aRev, aLen, aList, aTupOf, aLRg1, aLRg2, aAbs, aI2N, aMax, aMin, aDm, aAll, aAny, aBM, aApp, aPopAt, aPop, aClear, aRevM, aExt, aRepr, aClD, aLnSt, aIAdd, aBreak, aCont,
  aEnd, startA, List.map_cons, List.map_nil, List.cons_append, List.nil_append, List.length_cons, List.length_nil, List.replicate, List.getElem?_cons_zero, List.getElem?_cons_succ, List.set_cons_zero, List.set_cons_succ, Nat.reduceAdd, Nat.reduceSub, Nat.succ_eq_add_one, Int.reduceAdd, Int.reduceMul,
  reduceIte, Bool.false_eq_true, Bool.not_true, Bool.not_false, ite_true, ite_false])
local macro_rules | `(tactic| walk_at "A.hop") => `(tactic| try simp only [aMtF, aFmt, aJs, aEqO, aNeO, aReprF, aRevT, aIsiT, aInt, aStrI, aEnum, aZip, aMulL, aCount, aAugS, aSetOf, aSrtSet, aSum, aDNew, aDIn, aDIx, aDPut, aLenD, aListD, aBits, aDsp1, aBool, aSorted, wipeA, aSeq, aNext, aSet, aVar, atV_s, onB_b, onI_i, onII_i, onL1_i, onL2_i, it_l, it_t, it_s, it_x, ix_l, ix_t, ix_s, add_i, add_x, eq_i, eq_x, eq_b, is_b, aC, aNil, aCons, aOp, aUn, aTup, aLst, aCB, aNot, aAnd, aOr, aTst, aIfE, aAndV, aOrV, aNotV, aChn, aDrop, aRet, aRetN, aIf, agName, agNil, agCons, agTup, aAsg, aPar, aAug, aFor, aRng1, aRng2, aIter, aLc, aYes,
  aCl, aMt, aMk, aFl, aFst, aNeg, aI2, aI20, aLe, aLt, aGt, aGe, aSub, aMod, aMul, aFdv, aPow, aXor, aShl, aShr, agSub, aoN, aoS, aSl, aRev, aLen, aList, aTupOf, aLRg1, aLRg2, aAbs, aI2N, aMax, aMin, aDm, aAll, aAny, aBM, aApp, aPopAt, aPop, aClear, aRevM, aExt, aRepr, aClD, aLnSt, aIAdd, aBreak, aCont,
  aEnd, startA, List.map_cons, List.map_nil, List.cons_append, List.nil_append, List.length_cons, List.length_nil, List.replicate, List.getElem?_cons_zero, List.getElem?_cons_succ, List.set_cons_zero, List.set_cons_succ, Nat.reduceAdd, Nat.reduceSub, Nat.succ_eq_add_one, Int.reduceAdd, Int.reduceMul,
  reduceIte, Bool.false_eq_true, Bool.not_true, Bool.not_false, ite_true, ite_false])
local macro_rules | `(tactic| walk_at "A.lop") => `(tactic| try simp only [decide_true, decide_false, aMtF, aFmt, aJs, aEqO, aNeO, aReprF, aRevT, aIsiT, aInt, aStrI, aEnum, aZip, aMulL, aCount, aAugS, aSetOf, aSrtSet, aSum, aDNew, aDIn, aDIx, aDPut, aLenD, aListD, aBits, aDsp1, aBool, aSorted, wipeA, aSeq, aNext, aSet, aVar, atV_s, onB_b, onI_i, onII_i, onL1_i, onL2_i, it_l, it_t, it_s, it_x, ix_l, ix_t, ix_s, add_i, add_x, eq_i, eq_x, eq_b, is_b, aC, aNil, aCons, aOp, aUn, aTup, aLst, aCB, aNot, aAnd, aOr, aTst, aIfE, aAndV, aOrV, aNotV, aChn, aDrop, aRet, aRetN, aIf, agName, agNil, agCons, agTup, aAsg, aPar, aAug, aFor, aRng1, aRng2, aIter, aLc, aYes,
  aCl, aMt, aMk, aFl, aFst, aNeg, aI2, aI20, aLe, aLt, aGt, aGe, aSub, aMod, aMul, aFdv, aPow, aXor, aShl, aShr, agSub, aoN, aoS, aSl, aRev, aLen, aList, aTupOf, aLRg1, aLRg2, aAbs, aI2N, aMax, aMin, aDm, aBM, aApp, aPopAt, aPop, aClear, aRevM, aExt, aClD, aLnSt, aIAdd, aBreak, aCont,
  aEnd, startA, List.map_cons, List.map_nil, List.cons_append, List.nil_append, List.length_cons, List.length_nil, List.replicate, List.getElem?_cons_zero, List.getElem?_cons_succ, List.set_cons_zero, List.set_cons_succ, Nat.reduceAdd, Nat.reduceSub, Nat.succ_eq_add_one, Int.reduceAdd, Int.reduceMul,
  reduceIte, Bool.false_eq_true, Bool.not_true, Bool.not_false, ite_true, ite_false])
def sp_but (K : PySem.W.Frag) : SpA := fun ds S Q E => ∃ d e l m, ds = [d, e] ∧ asL S d = some (List.map D.int l) ∧ asL S e = some (List.map D.int m) ∧ l.length < 32 ∧ m.length < 32 ∧ (∀ k ∈ l, 0 ≤ k ∧ k < 32) ∧ ∀ ns : List Int, ns.Pairwise (· < ·) → (∀ k, k ∈ ns ↔ k ∈ l ∧ k ∉ m) → NewL (List.map D.int ns) S Q
theorem len_but (K : PySem.W.Frag) : ∀ ds S Q E, sp_but K ds S Q E → ds.length = 2 := by
  rintro ds S Q E ⟨_, _, _, _, rfl, _⟩
  rfl

def a_but (K : PySem.W.Frag) : AS := (aRet (aCB aSrtSet (aCons (aOp aSubS (aCB aSetOf (aCons (aVar 0) aNil)) (aCB aSetOf (aCons (aVar 1) aNil))) aNil)))
end A

/-! ## what is in the one and not in the other, in both -/
namespace A
open PySem PySem.Spec L2 PyProof.Rows
local macro_rules | `(tactic| walk_at "A.go") => `(tactic| simp only [aSeq, aNext, aSet, aVar, atV_s, onB_b, onI_i, onII_i, onL1_i, onL2_i, it_l, it_t, it_s, it_x, ix_l, ix_t, ix_s, add_i, add_x, eq_i, eq_x, eq_b, is_b, aC, aNil, aCons, aOp, aUn, aTup, aLst, aCB, aNot, aAnd, aOr, aTst, aIfE, aAndV, aOrV, aNotV, aChn, aDrop, aRet, aRetN, aIf, agName, agNil, agCons, agTup, aAsg, aPar, aAug, aFor, aRng1, aRng2, aIter, aLc, aYes,
  aCl, aMt, aMk, aFl, aFst, aNeg, aI2, aI20, aLe, aLt, aGt, aGe, aSub, aMod, aMul, aFdv, aPow, aXor, aShl, aShr, agSub, aoN, aoS, aSl, aRev, aLen, aList, aTupOf, aLRg1, aLRg2, aAbs, aI2N, aMax, aMin, aDm, aAll, aAny, aBM, aApp, aPopAt, aPop, aClear, aRevM, aExt, aRepr, aClD, aLnSt, aIAdd, aBreak, aCont,
  aEnd, startA, List.map_cons, List.map_nil, List.cons_append, List.nil_append, List.length_cons, List.length_nil, List.replicate, List.getElem?_cons_zero, List.getElem?_cons_succ, List.set_cons_zero, List.set_cons_succ, Nat.reduceAdd, Nat.reduceSub, Nat.succ_eq_add_one, Int.reduceAdd, Int.reduceMul,
  reduceIte, Bool.false_eq_true, Bool.not_true, Bool.not_false, ite_true, ite_false])
local macro_rules | `(tactic| walk_at "A.hop") => `(tactic| try simp only [aMtF, aFmt, aJs, aEqO, aNeO, aReprF, aRevT, aIsiT, aInt, aStrI, aEnum, aZip, aMulL, aCount, aAugS, aSetOf, aSrtSet, aSum, aDNew, aDIn, aDIx, aDPut, aLenD, aListD, aBits, aDsp1, aBool, aSorted, wipeA, aSeq, aNext, aSet, aVar, atV_s, onB_b, onI_i, onII_i, onL1_i, onL2_i, it_l, it_t, it_s, it_x, ix_l, ix_t, ix_s, add_i, add_x, eq_i, eq_x, eq_b, is_b, aC, aNil, aCons, aOp, aUn, aTup, aLst, aCB, aNot, aAnd, aOr, aTst, aIfE, aAndV, aOrV, aNotV, aChn, aDrop, aRet, aRetN, aIf, agName, agNil, agCons, agTup, aAsg, aPar, aAug, aFor, aRng1, aRng2, aIter, aLc, aYes,
  aCl, aMt, aMk, aFl, aFst, aNeg, aI2, aI20, aLe, aLt, aGt, aGe, aSub, aMod, aMul, aFdv, aPow, aXor, aShl, aShr, agSub, aoN, aoS, aSl, aRev, aLen, aList, aTupOf, aLRg1, aLRg2, aAbs, aI2N, aMax, aMin, aDm, aAll, aAny, aBM, aApp, aPopAt, aPop, aClear, aRevM, aExt, aRepr, aClD, aLnSt, aIAdd, aBreak, aCont,
  aEnd, startA, List.map_cons, List.map_nil, List.cons_append, List.nil_append, List.length_cons, List.length_nil, List.replicate, List.getElem?_cons_zero, List.getElem?_cons_succ, List.set_cons_zero, List.set_cons_succ, Nat.reduceAdd, Nat.reduceSub, Nat.succ_eq_add_one, Int.reduceAdd, Int.reduceMul,
  reduceIte, Bool.false_eq_true, Bool.not_true, Bool.not_false, ite_true, ite_false])
local macro_rules | `(tactic| walk_at "A.lop") => `(tactic| try simp only [decide_true, decide_false, aMtF, aFmt, aJs, aEqO, aNeO, aReprF, aRevT, aIsiT, aInt, aStrI, aEnum, aZip, aMulL, aCount, aAugS, aSetOf, aSrtSet, aSum, aDNew, aDIn, aDIx, aDPut, aLenD, aListD, aBits, aDsp1, aBool, aSorted, wipeA, aSeq, aNext, aSet, aVar, atV_s, onB_b, onI_i, onII_i, onL1_i, onL2_i, it_l, it_t, it_s, it_x, ix_l, ix_t, ix_s, add_i, add_x, eq_i, eq_x, eq_b, is_b, aC, aNil, aCons, aOp, aUn, aTup, aLst, aCB, aNot, aAnd, aOr, aTst, aIfE, aAndV, aOrV, aNotV, aChn, aDrop, aRet, aRetN, aIf, agName, agNil, agCons, agTup, aAsg, aPar, aAug, aFor, aRng1, aRng2, aIter, aLc, aYes,
  aCl, aMt, aMk, aFl, aFst, aNeg, aI2, aI20, aLe, aLt, aGt, aGe, aSub, aMod, aMul, aFdv, aPow, aXor, aShl, aShr, agSub, aoN, aoS, aSl, aRev, aLen, aList, aTupOf, aLRg1, aLRg2, aAbs, aI2N, aMax, aMin, aDm, aBM, aApp, aPopAt, aPop, aClear, aRevM, aExt, aClD, aLnSt, aIAdd, aBreak, aCont,
  aEnd, startA, List.map_cons, List.map_nil, List.cons_append, List.nil_append, List.length_cons, List.length_nil, List.replicate, List.getElem?_cons_zero, List.getElem?_cons_succ, List.set_cons_zero, List.set_cons_succ, Nat.reduceAdd, Nat.reduceSub, Nat.succ_eq_add_one, Int.reduceAdd, Int.reduceMul,
  reduceIte, Bool.false_eq_true, Bool.not_true, Bool.not_false, ite_true, ite_false])
theorem law_sets {f : Int → List Int → Prop} {S : Sto} {Q : KD} {E : KX} {d e : D} {l m : List Int} {σ : List (Option D)} (hd : asL S d = some (l.map D.int)) (he : asL S e = some (m.map D.int)) (hl : l.length < 32) (hm : m.length < 32) (hs : ∀ k ∈ l, 0 ≤ k ∧ k < 32) (hf : ∀ (k : Int) (m' : List Int), (∀ j, j ∈ m' ↔ j ∈ m) → (f k m' ↔ f k m))
    (q : ∀ ns : List Int, ns.Pairwise (· < ·) → (∀ k, k ∈ ns ↔ k ∈ l ∧ f k m) → NewL (ns.map D.int) S Q) :
    aSetOf [d] S fun v S1 => aSetOf [e] S1 fun u S2 => aSets f v u S2 fun z S3 => aSrtSet [z] S3 (Ret Q) := by
  refine ⟨d, _, l, rfl, hd, intsOf_map _, by omega, fun l' nd mem => ?_⟩
  refine ⟨e, _, m, rfl, he, intsOf_map _, by omega, fun m' nd2 mem2 => ?_⟩
  have h1 := sub_len nd fun x hx => (mem x).mp hx
  have h2 := sub_len nd2 fun x hx => (mem2 x).mp hx
  refine ⟨l', m', rfl, rfl, by omega, by omega, fun k hk => hs k ((mem k).mp hk), fun z ndz memz => ?_⟩
  have h3 := sub_len ndz fun x hx => ((memz x).mp hx).1
  refine ⟨z, rfl, by omega, fun ns hp hmm => (q ns hp fun k => ?_).ret⟩
  rw [hmm, memz, mem, hf k m' mem2]
theorem law_but (K : PySem.W.Frag) : ∀ ds S Q E, sp_but K ds S Q E → a_but K (aEnd Q E) (startA ["one", "other"] ds) S := by
  rintro ds S Q E ⟨d, e, l, m, rfl, hd, he, hl, hm, hs, q⟩
  unfold a_but
  walk_at "A.hop"
  exact law_sets (E := E) (σ := []) (f := fun k l => ¬ k ∈ l) hd he hl hm hs (fun k m' h => not_congr (h k)) q
end A

/-! ## tools of the plain laws -/
namespace A
open PySem PySem.Spec L2 PyProof.Rows
local macro_rules | `(tactic| walk_at "A.go") => `(tactic| simp only [aSeq, aNext, aSet, aVar, atV_s, onB_b, onI_i, onII_i, onL1_i, onL2_i, it_l, it_t, it_s, it_x, ix_l, ix_t, ix_s, add_i, add_x, eq_i, eq_x, eq_b, is_b, aC, aNil, aCons, aOp, aUn, aTup, aLst, aCB, aNot, aAnd, aOr, aTst, aIfE, aAndV, aOrV, aNotV, aChn, aDrop, aRet, aRetN, aIf, agName, agNil, agCons, agTup, aAsg, aPar, aAug, aFor, aRng1, aRng2, aIter, aLc, aYes,
  aCl, aMt, aMk, aFl, aFst, aNeg, aI2, aI20, aLe, aLt, aGt, aGe, aSub, aMod, aMul, aFdv, aPow, aXor, aShl, aShr, agSub, aoN, aoS, aSl, aRev, aLen, aList, aTupOf, aLRg1, aLRg2, aAbs, aI2N, aMax, aMin, aDm, aAll, aAny, aBM, aApp, aPopAt, aPop, aClear, aRevM, aExt, aRepr, aClD, aLnSt, aIAdd, aBreak, aCont,
  aEnd, startA, List.map_cons, List.map_nil, List.cons_append, List.nil_append, List.length_cons, List.length_nil, List.replicate, List.getElem?_cons_zero, List.getElem?_cons_succ, List.set_cons_zero, List.set_cons_succ, Nat.reduceAdd, Nat.reduceSub, Nat.succ_eq_add_one, Int.reduceAdd, Int.reduceMul,
  reduceIte, Bool.false_eq_true, Bool.not_true, Bool.not_false, ite_true, ite_false])
local macro_rules | `(tactic| walk_at "A.hop") => `(tactic| try simp only [aMtF, aFmt, aJs, aEqO, aNeO, aReprF, aRevT, aIsiT, aInt, aStrI, aEnum, aZip, aMulL, aCount, aAugS, aSetOf, aSrtSet, aSum, aDNew, aDIn, aDIx, aDPut, aLenD, aListD, aBits, aDsp1, aBool, aSorted, wipeA, aSeq, aNext, aSet, aVar, atV_s, onB_b, onI_i, onII_i, onL1_i, onL2_i, it_l, it_t, it_s, it_x, ix_l, ix_t, ix_s, add_i, add_x, eq_i, eq_x, eq_b, is_b, aC, aNil, aCons, aOp, aUn, aTup, aLst, aCB, aNot, aAnd, aOr, aTst, aIfE, aAndV, aOrV, aNotV, aChn, aDrop, aRet, aRetN, aIf, agName, agNil, agCons, agTup, aAsg, aPar, aAug, aFor, aRng1, aRng2, aIter, aLc, aYes,
  aCl, aMt, aMk, aFl, aFst, aNeg, aI2, aI20, aLe, aLt, aGt, aGe, aSub, aMod, aMul, aFdv, aPow, aXor, aShl, aShr, agSub, aoN, aoS, aSl, aRev, aLen, aList, aTupOf, aLRg1, aLRg2, aAbs, aI2N, aMax, aMin, aDm, aAll, aAny, aBM, aApp, aPopAt, aPop, aClear, aRevM, aExt, aRepr, aClD, aLnSt, aIAdd, aBreak, aCont,
  aEnd, startA, List.map_cons, List.map_nil, List.cons_append, List.nil_append, List.length_cons, List.length_nil, List.replicate, List.getElem?_cons_zero, List.getElem?_cons_succ, List.set_cons_zero, List.set_cons_succ, Nat.reduceAdd, Nat.reduceSub, Nat.succ_eq_add_one, Int.reduceAdd, Int.reduceMul,
  reduceIte, Bool.false_eq_true, Bool.not_true, Bool.not_false, ite_true, ite_false])
local macro_rules | `(tactic| walk_at "A.lop") => `(tactic| try simp only [decide_true, decide_false, aMtF, aFmt, aJs, aEqO, aNeO, aReprF, aRevT, aIsiT, aInt, aStrI, aEnum, aZip, aMulL, aCount, aAugS, aSetOf, aSrtSet, aSum, aDNew, aDIn, aDIx, aDPut, aLenD, aListD, aBits, aDsp1, aBool, aSorted, wipeA, aSeq, aNext, aSet, aVar, atV_s, onB_b, onI_i, onII_i, onL1_i, onL2_i, it_l, it_t, it_s, it_x, ix_l, ix_t, ix_s, add_i, add_x, eq_i, eq_x, eq_b, is_b, aC, aNil, aCons, aOp, aUn, aTup, aLst, aCB, aNot, aAnd, aOr, aTst, aIfE, aAndV, aOrV, aNotV, aChn, aDrop, aRet, aRetN, aIf, agName, agNil, agCons, agTup, aAsg, aPar, aAug, aFor, aRng1, aRng2, aIter, aLc, aYes,
  aCl, aMt, aMk, aFl, aFst, aNeg, aI2, aI20, aLe, aLt, aGt, aGe, aSub, aMod, aMul, aFdv, aPow, aXor, aShl, aShr, agSub, aoN, aoS, aSl, aRev, aLen, aList, aTupOf, aLRg1, aLRg2, aAbs, aI2N, aMax, aMin, aDm, aBM, aApp, aPopAt, aPop, aClear, aRevM, aExt, aClD, aLnSt, aIAdd, aBreak, aCont,
  aEnd, startA, List.map_cons, List.map_nil, List.cons_append, List.nil_append, List.length_cons, List.length_nil, List.replicate, List.getElem?_cons_zero, List.getElem?_cons_succ, List.set_cons_zero, List.set_cons_succ, Nat.reduceAdd, Nat.reduceSub, Nat.succ_eq_add_one, Int.reduceAdd, Int.reduceMul,
  reduceIte, Bool.false_eq_true, Bool.not_true, Bool.not_false, ite_true, ite_false])
theorem in_as {S : Sto} {d : D} {L : List Int} {i : Int} {neg : Bool} {Q : KD} (h : asL S d = some (L.map .int)) (q : Q (.bl (if neg then !decide (i ∈ L) else decide (i ∈ L))) S) : aIn neg (.int i) d S Q := by
  refine ⟨2, .int i, L.map .int, by decide, rfl, ?_, ?_⟩
  · rw [rd_asL 1 h]; exact rd_ints L
  · rw [any_ints]; exact q
theorem srt_eq {l m : List Int} (hl : l.Pairwise (· < ·)) (hm : m.Pairwise (· < ·)) (h : ∀ k, k ∈ l ↔ k ∈ m) : l = m :=
  List.Perm.eq_of_pairwise (fun a b _ _ h1 h2 => by omega) (hl.imp fun {a b} (q : a < b) => (show a ≤ b by omega)) (hm.imp fun {a b} (q : a < b) => (show a ≤ b by omega)) (perm_of (sorted_nodup hl) (sorted_nodup hm) h)
theorem rng_srt {n : Nat} : (rng n).Pairwise (· < ·) := by
  unfold rng
  rw [List.pairwise_map]
  exact List.pairwise_lt_range.imp fun h => by omega
/-- [f(k) for k in l] of ints, the store as it was -/
theorem lc_mp {S : Sto} {hp : List Int} {e : AE} {ρ0 : En} {Q : KD} {i : Nat} {G : Sto → Prop} (f : Int → D) (hG : G S)
    (step : ∀ k ∈ hp, ∀ g : D → Sto → Prop, g (f k) S → e (ρ0.set i (some (.int k))) S g noX) (q : NewL (hp.map f) S Q) :
    aLcL (agName i) aYes e G ρ0 Q (List.map D.int hp) [] S := by
  refine aLcL_map (fun d => match d with | .int k => f k | d => d) hG ?_ ?_
  · intro d hd g hg
    obtain ⟨k, hk, rfl⟩ := List.mem_map.mp hd
    exact step k hk g hg
  · rw [List.map_map]
    exact q
theorem add_as {S : Sto} {d e : D} {xs ys : List D} {Q : KD} (hd : asL S d = some xs) (he : asL S e = some ys) (hz : xs.length + ys.length ≤ sizeLine) (q : NewL (xs ++ ys) S Q) : aAdd d e S Q := by
  have lists : ∃ xs ys, asL S d = some xs ∧ asL S e = some ys ∧ xs.length + ys.length ≤ sizeLine ∧ NewL (xs ++ ys) S Q := ⟨_, _, hd, he, hz, q⟩
  cases d with
  | int i => cases hd
  | str x => cases hd
  | _ => exact lists
theorem eq_none {S : Sto} {d : D} {l : List Int} {neg : Bool} {Q : KD} (hd : asL S d = some (l.map D.int)) (q : Q (.bl (if neg then !decide (l = []) else decide (l = []))) S) : aEqD neg d (.lst []) S Q := eq_ints (m := []) hd rfl q
/-! ### worths of two heaps -/
section
variable {α : Type} {ok : α → Prop} {W : List α → Int} {Cl : List α → α → Prop}
end
theorem Yd.mono {u : Yd} (ok : u.Ok) {a b : List Int} (ha : Heap_ u.len a) (hb : Heap_ u.len b) (sb : ∀ k ∈ a, k ∈ b) : u.worth a ≤ u.worth b ∧ u.worth b + a.length ≤ u.worth a + b.length := by
  have hfb : ∀ x ∈ b.filter fun k => !decide (k ∈ a), InR u.len x := fun x hx => hb.2 x (List.mem_filter.mp hx).1
  have nda : (a ++ b.filter fun k => !decide (k ∈ a)).Nodup := List.nodup_append.mpr ⟨ha.1, hb.1.filter _, fun x hx y hy e => by
    subst e
    have h1 := (List.mem_filter.mp hy).2
    rw [decide_eq_true hx] at h1
    cases h1⟩
  have pb : (a ++ b.filter fun k => !decide (k ∈ a)).Perm b := perm_of nda hb.1 fun k => by
    rw [List.mem_append, List.mem_filter]
    by_cases h : k ∈ a
    · simp [h, sb k h]
    · simp [h]
  have z := (Yd.rk ok).up ha.2 hfb
  rw [Yd.worth_perm ok (IsRk.oka ha.2 hfb) pb] at z
  have l := pb.length_eq
  rw [List.length_append] at l
  omega
theorem heap_fl {n : Nat} {p : Int → Bool} : Heap_ n ((rng n).filter p) := ⟨rng_nodup.filter p, fun i hi => mem_rngI.mp (List.mem_filter.mp hi).1⟩
theorem heap_rng {n : Nat} : Heap_ n (rng n) := ⟨rng_nodup, fun i hi => mem_rngI.mp hi⟩
theorem small_heap {n : Nat} {l : List Int} (h : Heap_ n l) (hn : n ≤ 24) : ∀ k ∈ l, 0 ≤ k ∧ k < 32 := fun k hk => by
  have := h.2 k hk
  exact ⟨this.1, by have := this.2; omega⟩
/-! ### lists of any data compared with the empty one -/
theorem heap_sub {m : Nat} {r : List Int} (h : r.Sublist (rng m)) : Heap_ m r ∧ r.Pairwise (· < ·) := ⟨⟨rng_nodup.sublist h, fun x hx => mem_rngI.mp (h.subset hx)⟩, rng_srt.sublist h⟩
/-- [f(a) for a in l] of data -/
theorem lc_al {α : Type} {S : Sto} {hp : List α} {e : AE} {ρ0 : En} {Q : KD} {i : Nat} {G : Sto → Prop} (c f : α → D) (hG : G S)
    (step : ∀ k ∈ hp, ∀ g : D → Sto → Prop, g (f k) S → e (ρ0.set i (some (c k))) S g noX) (q : NewL (hp.map f) S Q) :
    aLcL (agName i) aYes e G ρ0 Q (List.map c hp) [] S := by
  refine aLcL_inv (fun j acc S' => S' = S ∧ acc = (hp.take j).map f) ?_ ?_ ⟨rfl, rfl⟩
  · rintro j d acc S' g hd ⟨rfl, rfl⟩ hg
    rw [List.getElem?_map] at hd
    obtain ⟨k, hk, rfl⟩ := Option.map_eq_some_iff.mp hd
    have tk : hp.take (j + 1) = hp.take j ++ [k] := by rw [List.take_add_one, hk]; rfl
    refine ⟨hG, ?_⟩
    change (if true = true then e (ρ0.set i (some (c k))) S' (fun v S4 => g (List.map f (List.take j hp) ++ [v]) S4) noX else g (List.map f (List.take j hp)) S')
    rw [if_pos rfl]
    refine step k (List.mem_of_getElem? hk) _ (hg _ _ ⟨rfl, ?_⟩)
    rw [tk, List.map_append]
    rfl
  · rintro acc S' ⟨rfl, rfl⟩
    rw [List.length_map, List.take_length]
    exact ⟨hG, q⟩
end A

/-! ## worths of sets of things: rings, exchange -/
namespace A
open PySem PySem.Spec L2 PyProof.Rows
local macro_rules | `(tactic| walk_at "A.go") => `(tactic| simp only [aSeq, aNext, aSet, aVar, atV_s, onB_b, onI_i, onII_i, onL1_i, onL2_i, it_l, it_t, it_s, it_x, ix_l, ix_t, ix_s, add_i, add_x, eq_i, eq_x, eq_b, is_b, aC, aNil, aCons, aOp, aUn, aTup, aLst, aCB, aNot, aAnd, aOr, aTst, aIfE, aAndV, aOrV, aNotV, aChn, aDrop, aRet, aRetN, aIf, agName, agNil, agCons, agTup, aAsg, aPar, aAug, aFor, aRng1, aRng2, aIter, aLc, aYes,
  aCl, aMt, aMk, aFl, aFst, aNeg, aI2, aI20, aLe, aLt, aGt, aGe, aSub, aMod, aMul, aFdv, aPow, aXor, aShl, aShr, agSub, aoN, aoS, aSl, aRev, aLen, aList, aTupOf, aLRg1, aLRg2, aAbs, aI2N, aMax, aMin, aDm, aAll, aAny, aBM, aApp, aPopAt, aPop, aClear, aRevM, aExt, aRepr, aClD, aLnSt, aIAdd, aBreak, aCont,
  aEnd, startA, List.map_cons, List.map_nil, List.cons_append, List.nil_append, List.length_cons, List.length_nil, List.replicate, List.getElem?_cons_zero, List.getElem?_cons_succ, List.set_cons_zero, List.set_cons_succ, Nat.reduceAdd, Nat.reduceSub, Nat.succ_eq_add_one, Int.reduceAdd, Int.reduceMul,
  reduceIte, Bool.false_eq_true, Bool.not_true, Bool.not_false, ite_true, ite_false])
local macro_rules | `(tactic| walk_at "A.hop") => `(tactic| try simp only [aMtF, aFmt, aJs, aEqO, aNeO, aReprF, aRevT, aIsiT, aInt, aStrI, aEnum, aZip, aMulL, aCount, aAugS, aSetOf, aSrtSet, aSum, aDNew, aDIn, aDIx, aDPut, aLenD, aListD, aBits, aDsp1, aBool, aSorted, wipeA, aSeq, aNext, aSet, aVar, atV_s, onB_b, onI_i, onII_i, onL1_i, onL2_i, it_l, it_t, it_s, it_x, ix_l, ix_t, ix_s, add_i, add_x, eq_i, eq_x, eq_b, is_b, aC, aNil, aCons, aOp, aUn, aTup, aLst, aCB, aNot, aAnd, aOr, aTst, aIfE, aAndV, aOrV, aNotV, aChn, aDrop, aRet, aRetN, aIf, agName, agNil, agCons, agTup, aAsg, aPar, aAug, aFor, aRng1, aRng2, aIter, aLc, aYes,
  aCl, aMt, aMk, aFl, aFst, aNeg, aI2, aI20, aLe, aLt, aGt, aGe, aSub, aMod, aMul, aFdv, aPow, aXor, aShl, aShr, agSub, aoN, aoS, aSl, aRev, aLen, aList, aTupOf, aLRg1, aLRg2, aAbs, aI2N, aMax, aMin, aDm, aAll, aAny, aBM, aApp, aPopAt, aPop, aClear, aRevM, aExt, aRepr, aClD, aLnSt, aIAdd, aBreak, aCont,
  aEnd, startA, List.map_cons, List.map_nil, List.cons_append, List.nil_append, List.length_cons, List.length_nil, List.replicate, List.getElem?_cons_zero, List.getElem?_cons_succ, List.set_cons_zero, List.set_cons_succ, Nat.reduceAdd, Nat.reduceSub, Nat.succ_eq_add_one, Int.reduceAdd, Int.reduceMul,
  reduceIte, Bool.false_eq_true, Bool.not_true, Bool.not_false, ite_true, ite_false])
local macro_rules | `(tactic| walk_at "A.lop") => `(tactic| try simp only [decide_true, decide_false, aMtF, aFmt, aJs, aEqO, aNeO, aReprF, aRevT, aIsiT, aInt, aStrI, aEnum, aZip, aMulL, aCount, aAugS, aSetOf, aSrtSet, aSum, aDNew, aDIn, aDIx, aDPut, aLenD, aListD, aBits, aDsp1, aBool, aSorted, wipeA, aSeq, aNext, aSet, aVar, atV_s, onB_b, onI_i, onII_i, onL1_i, onL2_i, it_l, it_t, it_s, it_x, ix_l, ix_t, ix_s, add_i, add_x, eq_i, eq_x, eq_b, is_b, aC, aNil, aCons, aOp, aUn, aTup, aLst, aCB, aNot, aAnd, aOr, aTst, aIfE, aAndV, aOrV, aNotV, aChn, aDrop, aRet, aRetN, aIf, agName, agNil, agCons, agTup, aAsg, aPar, aAug, aFor, aRng1, aRng2, aIter, aLc, aYes,
  aCl, aMt, aMk, aFl, aFst, aNeg, aI2, aI20, aLe, aLt, aGt, aGe, aSub, aMod, aMul, aFdv, aPow, aXor, aShl, aShr, agSub, aoN, aoS, aSl, aRev, aLen, aList, aTupOf, aLRg1, aLRg2, aAbs, aI2N, aMax, aMin, aDm, aBM, aApp, aPopAt, aPop, aClear, aRevM, aExt, aClD, aLnSt, aIAdd, aBreak, aCont,
  aEnd, startA, List.map_cons, List.map_nil, List.cons_append, List.nil_append, List.length_cons, List.length_nil, List.replicate, List.getElem?_cons_zero, List.getElem?_cons_succ, List.set_cons_zero, List.set_cons_succ, Nat.reduceAdd, Nat.reduceSub, Nat.succ_eq_add_one, Int.reduceAdd, Int.reduceMul,
  reduceIte, Bool.false_eq_true, Bool.not_true, Bool.not_false, ite_true, ite_false])
noncomputable def Yd.R (u : Yd) (p : Int → Prop) : Int := u.worth ((rng u.len).filter fun k => @decide (p k) (Classical.propDecidable _))
section
variable {u : Yd} {p q : Int → Prop} {hp : List Int} {i : Int}
theorem mem_R {k : Int} : k ∈ ((rng u.len).filter fun k => @decide (p k) (Classical.propDecidable _)) ↔ InR u.len k ∧ p k := by
  rw [List.mem_filter, mem_rngI]
  exact and_congr_right fun _ => @decide_eq_true_iff (p k) (Classical.propDecidable _)
theorem R_of (ok : u.Ok) (h : Heap_ u.len hp) (e : ∀ k, p k ↔ k ∈ hp) : u.worth hp = u.R p := by
  unfold Yd.R
  refine Yd.worth_perm ok h.2 (perm_of h.1 heap_fl.1 fun k => ?_)
  rw [mem_R, e]
  exact ⟨fun z => ⟨h.2 k z, z⟩, fun z => z.2⟩
theorem R_iff (ok : u.Ok) (e : ∀ k, InR u.len k → (p k ↔ q k)) : u.R p = u.R q := by
  unfold Yd.R
  refine Yd.worth_perm ok heap_fl.2 (perm_of heap_fl.1 heap_fl.1 fun k => ?_)
  rw [mem_R, mem_R]
  exact and_congr_right fun h => e k h
/-- free heaps: each part is free -/
theorem free_part (ok : u.Ok) {a b : List Int} (ha : Heap_ u.len a) (hb : Heap_ u.len b) (f : u.worth b = b.length) (sb : ∀ k ∈ a, k ∈ b) : u.worth a = a.length := by
  have h1 := (Yd.mono ok ha hb sb).2
  have h2 := ((Yd.rk ok).bound ha.2).2
  omega
end
end A

namespace A
open PySem PySem.Spec L2 PyProof.Rows
local macro_rules | `(tactic| walk_at "A.go") => `(tactic| simp only [aSeq, aNext, aSet, aVar, atV_s, onB_b, onI_i, onII_i, onL1_i, onL2_i, it_l, it_t, it_s, it_x, ix_l, ix_t, ix_s, add_i, add_x, eq_i, eq_x, eq_b, is_b, aC, aNil, aCons, aOp, aUn, aTup, aLst, aCB, aNot, aAnd, aOr, aTst, aIfE, aAndV, aOrV, aNotV, aChn, aDrop, aRet, aRetN, aIf, agName, agNil, agCons, agTup, aAsg, aPar, aAug, aFor, aRng1, aRng2, aIter, aLc, aYes,
  aCl, aMt, aMk, aFl, aFst, aNeg, aI2, aI20, aLe, aLt, aGt, aGe, aSub, aMod, aMul, aFdv, aPow, aXor, aShl, aShr, agSub, aoN, aoS, aSl, aRev, aLen, aList, aTupOf, aLRg1, aLRg2, aAbs, aI2N, aMax, aMin, aDm, aAll, aAny, aBM, aApp, aPopAt, aPop, aClear, aRevM, aExt, aRepr, aClD, aLnSt, aIAdd, aBreak, aCont,
  aEnd, startA, List.map_cons, List.map_nil, List.cons_append, List.nil_append, List.length_cons, List.length_nil, List.replicate, List.getElem?_cons_zero, List.getElem?_cons_succ, List.set_cons_zero, List.set_cons_succ, Nat.reduceAdd, Nat.reduceSub, Nat.succ_eq_add_one, Int.reduceAdd, Int.reduceMul,
  reduceIte, Bool.false_eq_true, Bool.not_true, Bool.not_false, ite_true, ite_false])
local macro_rules | `(tactic| walk_at "A.hop") => `(tactic| try simp only [aMtF, aFmt, aJs, aEqO, aNeO, aReprF, aRevT, aIsiT, aInt, aStrI, aEnum, aZip, aMulL, aCount, aAugS, aSetOf, aSrtSet, aSum, aDNew, aDIn, aDIx, aDPut, aLenD, aListD, aBits, aDsp1, aBool, aSorted, wipeA, aSeq, aNext, aSet, aVar, atV_s, onB_b, onI_i, onII_i, onL1_i, onL2_i, it_l, it_t, it_s, it_x, ix_l, ix_t, ix_s, add_i, add_x, eq_i, eq_x, eq_b, is_b, aC, aNil, aCons, aOp, aUn, aTup, aLst, aCB, aNot, aAnd, aOr, aTst, aIfE, aAndV, aOrV, aNotV, aChn, aDrop, aRet, aRetN, aIf, agName, agNil, agCons, agTup, aAsg, aPar, aAug, aFor, aRng1, aRng2, aIter, aLc, aYes,
  aCl, aMt, aMk, aFl, aFst, aNeg, aI2, aI20, aLe, aLt, aGt, aGe, aSub, aMod, aMul, aFdv, aPow, aXor, aShl, aShr, agSub, aoN, aoS, aSl, aRev, aLen, aList, aTupOf, aLRg1, aLRg2, aAbs, aI2N, aMax, aMin, aDm, aAll, aAny, aBM, aApp, aPopAt, aPop, aClear, aRevM, aExt, aRepr, aClD, aLnSt, aIAdd, aBreak, aCont,
  aEnd, startA, List.map_cons, List.map_nil, List.cons_append, List.nil_append, List.length_cons, List.length_nil, List.replicate, List.getElem?_cons_zero, List.getElem?_cons_succ, List.set_cons_zero, List.set_cons_succ, Nat.reduceAdd, Nat.reduceSub, Nat.succ_eq_add_one, Int.reduceAdd, Int.reduceMul,
  reduceIte, Bool.false_eq_true, Bool.not_true, Bool.not_false, ite_true, ite_false])
local macro_rules | `(tactic| walk_at "A.lop") => `(tactic| try simp only [decide_true, decide_false, aMtF, aFmt, aJs, aEqO, aNeO, aReprF, aRevT, aIsiT, aInt, aStrI, aEnum, aZip, aMulL, aCount, aAugS, aSetOf, aSrtSet, aSum, aDNew, aDIn, aDIx, aDPut, aLenD, aListD, aBits, aDsp1, aBool, aSorted, wipeA, aSeq, aNext, aSet, aVar, atV_s, onB_b, onI_i, onII_i, onL1_i, onL2_i, it_l, it_t, it_s, it_x, ix_l, ix_t, ix_s, add_i, add_x, eq_i, eq_x, eq_b, is_b, aC, aNil, aCons, aOp, aUn, aTup, aLst, aCB, aNot, aAnd, aOr, aTst, aIfE, aAndV, aOrV, aNotV, aChn, aDrop, aRet, aRetN, aIf, agName, agNil, agCons, agTup, aAsg, aPar, aAug, aFor, aRng1, aRng2, aIter, aLc, aYes,
  aCl, aMt, aMk, aFl, aFst, aNeg, aI2, aI20, aLe, aLt, aGt, aGe, aSub, aMod, aMul, aFdv, aPow, aXor, aShl, aShr, agSub, aoN, aoS, aSl, aRev, aLen, aList, aTupOf, aLRg1, aLRg2, aAbs, aI2N, aMax, aMin, aDm, aBM, aApp, aPopAt, aPop, aClear, aRevM, aExt, aClD, aLnSt, aIAdd, aBreak, aCont,
  aEnd, startA, List.map_cons, List.map_nil, List.cons_append, List.nil_append, List.length_cons, List.length_nil, List.replicate, List.getElem?_cons_zero, List.getElem?_cons_succ, List.set_cons_zero, List.set_cons_succ, Nat.reduceAdd, Nat.reduceSub, Nat.succ_eq_add_one, Int.reduceAdd, Int.reduceMul,
  reduceIte, Bool.false_eq_true, Bool.not_true, Bool.not_false, ite_true, ite_false])
def partsOf (l : List Int) : List (List Int) := l.foldl (fun f x => f ++ f.map fun h => h ++ [x]) [[]]
noncomputable def ringB (u : Yd) (hp : List Int) : Bool := !decide (hp = []) && (decide (u.worth hp = (hp.length : Int) - 1) && hp.all fun x => decide (u.worth (wo hp x) = (hp.length : Int) - 1))
def sp_is_ring (K : PySem.W.Frag) : SpA := fun ds S Q E => ∃ y u d hp, ds = [.own y, d] ∧ IsY K S y u ∧ asL S d = some (List.map D.int hp) ∧ Heap_ u.len hp ∧ Q (.bl (ringB u hp)) S
theorem len_is_ring (K : PySem.W.Frag) : ∀ ds S Q E, sp_is_ring K ds S Q E → ds.length = 2 := by
  rintro ds S Q E ⟨_, _, _, _, rfl, _⟩
  rfl
def sp_heaps_of (K : PySem.W.Frag) : SpA := fun ds S Q E => ∃ d l, ds = [d] ∧ asL S d = some (List.map D.int l) ∧ l.length ≤ 8 ∧ Q (.lst (List.map iD (partsOf l))) S
theorem len_heaps_of (K : PySem.W.Frag) : ∀ ds S Q E, sp_heaps_of K ds S Q E → ds.length = 1 := by
  rintro ds S Q E ⟨_, _, rfl, _⟩
  rfl

def a_is_ring (K : PySem.W.Frag) : AS := (aSeq (aDrop (aCl (sp_want_heap K) (aCons (aVar 0) (aCons (aVar 1) aNil))))
 (aSeq (aSet 2 (aOp aSub (aCB aLen (aCons (aVar 1) aNil)) (aC (.int 1))))
 (aSeq (aIf (aOr (aTst (aOp (aEqD false) (aVar 1) (aLst aNil))) (aTst (aOp (aEqD true) (aMtF (okY K) "worth_of" (fam_worth_of K) (aVar 0) (aCons (aVar 1) aNil)) (aVar 2)))) (aRet (aC (.bl false))) aNext)
 (aRet (aCB aAll (aCons (aLc (aIter (aVar 1)) (agName 3) aYes (aOp (aEqD false) (aMtF (okY K) "worth_of" (fam_worth_of K) (aVar 0) (aCons (aCl (sp_but K) (aCons (aVar 1) (aCons (aLst (aCons (aVar 3) aNil)) aNil))) aNil)) (aVar 2)) [3]) aNil))))))
def a_heaps_of (K : PySem.W.Frag) : AS := (aSeq (aSet 1 (aLst (aCons (aLst aNil) aNil)))
 (aSeq (aFor (aIter (aVar 0)) (agName 2) (aSet 1 (aOp aAdd (aVar 1) (aLc (aIter (aVar 1)) (agName 3) aYes (aOp aAdd (aVar 3) (aLst (aCons (aVar 2) aNil))) [3]))))
 (aRet (aVar 1))))
end A

/-! ## rings: plain laws -/
namespace A
open PySem PySem.Spec L2 PyProof.Rows
local macro_rules | `(tactic| walk_at "A.go") => `(tactic| simp only [aSeq, aNext, aSet, aVar, atV_s, onB_b, onI_i, onII_i, onL1_i, onL2_i, it_l, it_t, it_s, it_x, ix_l, ix_t, ix_s, add_i, add_x, eq_i, eq_x, eq_b, is_b, aC, aNil, aCons, aOp, aUn, aTup, aLst, aCB, aNot, aAnd, aOr, aTst, aIfE, aAndV, aOrV, aNotV, aChn, aDrop, aRet, aRetN, aIf, agName, agNil, agCons, agTup, aAsg, aPar, aAug, aFor, aRng1, aRng2, aIter, aLc, aYes,
  aCl, aMt, aMk, aFl, aFst, aNeg, aI2, aI20, aLe, aLt, aGt, aGe, aSub, aMod, aMul, aFdv, aPow, aXor, aShl, aShr, agSub, aoN, aoS, aSl, aRev, aLen, aList, aTupOf, aLRg1, aLRg2, aAbs, aI2N, aMax, aMin, aDm, aAll, aAny, aBM, aApp, aPopAt, aPop, aClear, aRevM, aExt, aRepr, aClD, aLnSt, aIAdd, aBreak, aCont,
  aEnd, startA, List.map_cons, List.map_nil, List.cons_append, List.nil_append, List.length_cons, List.length_nil, List.replicate, List.getElem?_cons_zero, List.getElem?_cons_succ, List.set_cons_zero, List.set_cons_succ, Nat.reduceAdd, Nat.reduceSub, Nat.succ_eq_add_one, Int.reduceAdd, Int.reduceMul,
  reduceIte, Bool.false_eq_true, Bool.not_true, Bool.not_false, ite_true, ite_false])
local macro_rules | `(tactic| walk_at "A.hop") => `(tactic| try simp only [aMtF, aFmt, aJs, aEqO, aNeO, aReprF, aRevT, aIsiT, aInt, aStrI, aEnum, aZip, aMulL, aCount, aAugS, aSetOf, aSrtSet, aSum, aDNew, aDIn, aDIx, aDPut, aLenD, aListD, aBits, aDsp1, aBool, aSorted, wipeA, aSeq, aNext, aSet, aVar, atV_s, onB_b, onI_i, onII_i, onL1_i, onL2_i, it_l, it_t, it_s, it_x, ix_l, ix_t, ix_s, add_i, add_x, eq_i, eq_x, eq_b, is_b, aC, aNil, aCons, aOp, aUn, aTup, aLst, aCB, aNot, aAnd, aOr, aTst, aIfE, aAndV, aOrV, aNotV, aChn, aDrop, aRet, aRetN, aIf, agName, agNil, agCons, agTup, aAsg, aPar, aAug, aFor, aRng1, aRng2, aIter, aLc, aYes,
  aCl, aMt, aMk, aFl, aFst, aNeg, aI2, aI20, aLe, aLt, aGt, aGe, aSub, aMod, aMul, aFdv, aPow, aXor, aShl, aShr, agSub, aoN, aoS, aSl, aRev, aLen, aList, aTupOf, aLRg1, aLRg2, aAbs, aI2N, aMax, aMin, aDm, aAll, aAny, aBM, aApp, aPopAt, aPop, aClear, aRevM, aExt, aRepr, aClD, aLnSt, aIAdd, aBreak, aCont,
  aEnd, startA, List.map_cons, List.map_nil, List.cons_append, List.nil_append, List.length_cons, List.length_nil, List.replicate, List.getElem?_cons_zero, List.getElem?_cons_succ, List.set_cons_zero, List.set_cons_succ, Nat.reduceAdd, Nat.reduceSub, Nat.succ_eq_add_one, Int.reduceAdd, Int.reduceMul,
  reduceIte, Bool.false_eq_true, Bool.not_true, Bool.not_false, ite_true, ite_false])
local macro_rules | `(tactic| walk_at "A.lop") => `(tactic| try simp only [decide_true, decide_false, aMtF, aFmt, aJs, aEqO, aNeO, aReprF, aRevT, aIsiT, aInt, aStrI, aEnum, aZip, aMulL, aCount, aAugS, aSetOf, aSrtSet, aSum, aDNew, aDIn, aDIx, aDPut, aLenD, aListD, aBits, aDsp1, aBool, aSorted, wipeA, aSeq, aNext, aSet, aVar, atV_s, onB_b, onI_i, onII_i, onL1_i, onL2_i, it_l, it_t, it_s, it_x, ix_l, ix_t, ix_s, add_i, add_x, eq_i, eq_x, eq_b, is_b, aC, aNil, aCons, aOp, aUn, aTup, aLst, aCB, aNot, aAnd, aOr, aTst, aIfE, aAndV, aOrV, aNotV, aChn, aDrop, aRet, aRetN, aIf, agName, agNil, agCons, agTup, aAsg, aPar, aAug, aFor, aRng1, aRng2, aIter, aLc, aYes,
  aCl, aMt, aMk, aFl, aFst, aNeg, aI2, aI20, aLe, aLt, aGt, aGe, aSub, aMod, aMul, aFdv, aPow, aXor, aShl, aShr, agSub, aoN, aoS, aSl, aRev, aLen, aList, aTupOf, aLRg1, aLRg2, aAbs, aI2N, aMax, aMin, aDm, aBM, aApp, aPopAt, aPop, aClear, aRevM, aExt, aClD, aLnSt, aIAdd, aBreak, aCont,
  aEnd, startA, List.map_cons, List.map_nil, List.cons_append, List.nil_append, List.length_cons, List.length_nil, List.replicate, List.getElem?_cons_zero, List.getElem?_cons_succ, List.set_cons_zero, List.set_cons_succ, Nat.reduceAdd, Nat.reduceSub, Nat.succ_eq_add_one, Int.reduceAdd, Int.reduceMul,
  reduceIte, Bool.false_eq_true, Bool.not_true, Bool.not_false, ite_true, ite_false])
section
variable {u : Yd} {hp B : List Int} {i : Int}
theorem R_heap (ok : u.Ok) (h : Heap_ u.len hp) : u.worth hp = u.R (· ∈ hp) := R_of ok h fun _ => Iff.rfl
theorem adds_R (ok : u.Ok) (h : Heap_ u.len hp) (hi : InR u.len i) : u.adds hp i = decide (u.R (· ∈ hp) < u.R (fun k => k ∈ hp ∨ k = i)) := by
  unfold Yd.adds
  rw [R_heap ok h, R_of ok (heap_adj h hi) (p := fun k => k ∈ hp ∨ k = i) fun k => mem_adj.symm]
theorem ringB_iff : ringB u hp = true ↔ hp ≠ [] ∧ u.worth hp = (hp.length : Int) - 1 ∧ ∀ x ∈ hp, u.worth (wo hp x) = (hp.length : Int) - 1 := by
  unfold ringB
  simp [List.all_eq_true]
end
theorem law_is_ring (K : PySem.W.Frag) : ∀ ds S Q E, sp_is_ring K ds S Q E → a_is_ring K (aEnd Q E) (startA ["yard", "heap", "free", "thing"] ds) S := by
  rintro ds S Q E ⟨y, u, d, hp, rfl, h, hd, hh, q⟩
  unfold a_is_ring
  have n24 := h.le
  have lh := heap_len hh
  have s1 : 1 ≤ sizeLine := by rw [sizeLine_eq]; decide
  have nf : List.lookup ("worth_of" : Str) u.flds = none := by cases u <;> rfl
  walk_at "A.lop"
  refine ⟨y, u, d, hp, rfl, h, hd, hh, ret ⟨d, _, rfl, lenD_asL hd, ?_⟩⟩
  rw [List.length_map]
  refine ⟨Nat.zero_le _, .inl (eq_none hd ?_)⟩
  unfold ringB at q
  by_cases c : hp = []
  · rw [decide_eq_true c] at q ⊢
    walk_at "A.lop"
    exact ret q
  rw [decide_eq_false c] at q ⊢
  walk_at "A.lop"
  refine ⟨_, _, h.ins, h.ok, nf, fam_worth h hd hh (ret ?_)⟩
  walk_at "A.lop"
  by_cases c2 : u.worth hp = (hp.length : Int) - 1
  · rw [decide_eq_true c2] at q ⊢
    walk_at "A.lop"
    refine iter_asL hd fun G hG => lc_mp (fun x => .bl (decide (u.worth (wo hp x) = (hp.length : Int) - 1))) (hG _ hd) (fun k hk g hg => ?_) (.inl ?_)
    · walk_at "A.lop"
      refine ⟨_, _, h.ins, h.ok, nf, s1, .inl ⟨d, _, hp, [k], rfl, hd, rfl, by omega, by simp, small_heap hh n24, fun ns g1 g2 => NewL.ret (.inl ?_)⟩⟩
      have hw := heap_wo (i := k) hh
      have pn : ns.Perm (wo hp k) := perm_of (sorted_nodup g1) hw.1 fun x => by rw [g2, mem_wo, List.mem_singleton]
      have hn := heap_perm hw pn
      refine fam_worth h (d := .lst (List.map D.int ns)) rfl hn (ret ?_)
      rw [Yd.worth_perm h.2.1 hn.2 pn]
      walk_at "A.lop"
      exact hg
    refine all_of (bs := hp.map fun x => decide (u.worth (wo hp x) = (hp.length : Int) - 1)) ?_ ?_
    · rw [List.map_map]
      rfl
    · rw [List.all_map]
      exact ret q
  · rw [decide_eq_false c2] at q ⊢
    walk_at "A.lop"
    exact ret q
/-! ### the heaps of some things -/
theorem parts_step (l : List Int) : ∀ (f : List (List Int)) (X : List Int), X ∈ l.foldl (fun f x => f ++ f.map fun h => h ++ [x]) f ↔ ∃ Y ∈ f, ∃ Z : List Int, Z.Sublist l ∧ X = Y ++ Z := by
  induction l with
  | nil =>
    intro f X
    constructor
    · exact fun h => ⟨X, h, [], List.Sublist.refl _, (List.append_nil X).symm⟩
    · rintro ⟨Y, hY, Z, hZ, rfl⟩
      rw [List.eq_nil_of_sublist_nil hZ, List.append_nil]
      exact hY
  | cons x l ih =>
    intro f X
    show X ∈ l.foldl _ (f ++ f.map fun h => h ++ [x]) ↔ _
    rw [ih]
    constructor
    · rintro ⟨Y, hY, Z, hZ, rfl⟩
      rcases List.mem_append.mp hY with hY | hY
      · exact ⟨Y, hY, Z, hZ.cons x, rfl⟩
      · obtain ⟨W, hW, rfl⟩ := List.mem_map.mp hY
        exact ⟨W, hW, x :: Z, hZ.cons_cons x, by rw [List.append_assoc]; rfl⟩
    · rintro ⟨Y, hY, Z, hZ, rfl⟩
      cases hZ with
      | cons _ h => exact ⟨Y, List.mem_append_left _ hY, Z, h, rfl⟩
      | cons_cons _ h => exact ⟨Y ++ [x], List.mem_append_right _ (List.mem_map.mpr ⟨Y, hY, rfl⟩), _, h, by rw [List.append_assoc]; rfl⟩
theorem mem_parts {l X : List Int} : X ∈ partsOf l ↔ X.Sublist l := by
  unfold partsOf
  rw [parts_step]
  constructor
  · rintro ⟨Y, hY, Z, hZ, rfl⟩
    rw [List.mem_singleton.mp hY]
    exact hZ
  · exact fun h => ⟨[], List.mem_singleton.mpr rfl, X, h, rfl⟩
theorem parts_snoc {l : List Int} {x : Int} : partsOf (l ++ [x]) = partsOf l ++ (partsOf l).map fun h => h ++ [x] := by unfold partsOf; rw [List.foldl_append]; rfl
theorem parts_len (l : List Int) : (partsOf l).length = 2 ^ l.length := by
  have main : ∀ (l : List Int) (f : List (List Int)), (l.foldl (fun f x => f ++ f.map fun h => h ++ [x]) f).length = f.length * 2 ^ l.length := by
    intro l
    induction l with
    | nil => intro f; simp
    | cons x l ih =>
      intro f
      show (l.foldl _ (f ++ f.map fun h => h ++ [x])).length = _
      rw [ih, List.length_append, List.length_map, List.length_cons, Nat.pow_succ, Nat.add_mul, ← Nat.mul_assoc]
      omega
  have := main l [[]]
  simpa [partsOf] using this
theorem law_heaps_of (K : PySem.W.Frag) : ∀ ds S Q E, sp_heaps_of K ds S Q E → a_heaps_of K (aEnd Q E) (startA ["_law_heap", "_law_found", "_law_thing", "_law_some"] ds) S := by
  rintro ds S Q E ⟨d, l, rfl, hd, h8, q⟩
  unfold a_heaps_of
  walk_at "A.lop"
  have hs : sizeLine = 16777216 := sizeLine_eq
  refine ⟨Nat.zero_le _, .inl ⟨by omega, .inl ?_⟩⟩
  refine iter_asL hd fun G hG => ?_
  refine aLoop_inv (fun j ρ S' => ∃ b2, ρ = [some d, some (.lst (List.map iD (partsOf (l.take j)))), b2, none] ∧ S' = S) ?_ ?_ ⟨none, rfl, rfl⟩
  · rintro j z ρ S' nx hz ⟨b2, rfl, rfl⟩ hn
    rw [List.getElem?_map] at hz
    obtain ⟨x, hx, rfl⟩ := Option.map_eq_some_iff.mp hz
    have tk : l.take (j + 1) = l.take j ++ [x] := by rw [List.take_add_one, hx]; rfl
    rw [tk] at hn
    have hl : (partsOf (l.take j)).length ≤ 256 := by
      rw [parts_len, List.length_take]
      exact Nat.le_trans (Nat.pow_le_pow_right (by decide) (show min j l.length ≤ 8 by omega)) (by decide)
    refine ⟨hG _ hd, ?_⟩
    walk_at "A.lop"
    refine aLcL_map (fun y => match y with | .lst m => .lst (m ++ [.int x]) | y => y) trivial ?_ (.inl ?_)
    · intro d' hd' k hk
      obtain ⟨h, hh, rfl⟩ := List.mem_map.mp hd'
      have hsub := (mem_parts.mp hh).length_le
      rw [List.length_take] at hsub
      unfold iD at hk ⊢
      walk_at "A.lop"
      exact ⟨by omega, .inl (add_as (xs := List.map D.int h) (ys := [.int x]) rfl rfl (by rw [List.length_map, List.length_singleton]; omega) (.inl hk))⟩
    · refine add_as (xs := List.map iD (partsOf (l.take j))) rfl rfl (by rw [List.length_map, List.length_map, List.length_map]; omega) (.inl (hn _ _ ⟨some (.int x), ?_, rfl⟩))
      have e : List.map iD (partsOf (l.take j ++ [x])) = List.map iD (partsOf (l.take j)) ++ List.map (fun y => match y with | .lst m => D.lst (m ++ [.int x]) | y => y) (List.map iD (partsOf (l.take j))) := by
        rw [parts_snoc, List.map_append, List.map_map, List.map_map]
        congr 1
        refine List.map_congr_left fun h _ => ?_
        show iD (h ++ [x]) = D.lst (List.map D.int h ++ [.int x])
        unfold iD
        rw [List.map_append]
        rfl
      rw [e]
  · rintro ρ S' ⟨b2, rfl, rfl⟩
    refine ⟨hG _ hd, ?_⟩
    walk_at "A.lop"
    rw [List.length_map, List.take_length]
    exact ret q
section
variable {u : Yd} {l h B : List Int} {i : Int}
end
end A

namespace A
open PySem PySem.Spec L2 PyProof.Rows
local macro_rules | `(tactic| walk_at "A.go") => `(tactic| simp only [aSeq, aNext, aSet, aVar, atV_s, onB_b, onI_i, onII_i, onL1_i, onL2_i, it_l, it_t, it_s, it_x, ix_l, ix_t, ix_s, add_i, add_x, eq_i, eq_x, eq_b, is_b, aC, aNil, aCons, aOp, aUn, aTup, aLst, aCB, aNot, aAnd, aOr, aTst, aIfE, aAndV, aOrV, aNotV, aChn, aDrop, aRet, aRetN, aIf, agName, agNil, agCons, agTup, aAsg, aPar, aAug, aFor, aRng1, aRng2, aIter, aLc, aYes,
  aCl, aMt, aMk, aFl, aFst, aNeg, aI2, aI20, aLe, aLt, aGt, aGe, aSub, aMod, aMul, aFdv, aPow, aXor, aShl, aShr, agSub, aoN, aoS, aSl, aRev, aLen, aList, aTupOf, aLRg1, aLRg2, aAbs, aI2N, aMax, aMin, aDm, aAll, aAny, aBM, aApp, aPopAt, aPop, aClear, aRevM, aExt, aRepr, aClD, aLnSt, aIAdd, aBreak, aCont,
  aEnd, startA, List.map_cons, List.map_nil, List.cons_append, List.nil_append, List.length_cons, List.length_nil, List.replicate, List.getElem?_cons_zero, List.getElem?_cons_succ, List.set_cons_zero, List.set_cons_succ, Nat.reduceAdd, Nat.reduceSub, Nat.succ_eq_add_one, Int.reduceAdd, Int.reduceMul,
  reduceIte, Bool.false_eq_true, Bool.not_true, Bool.not_false, ite_true, ite_false])
local macro_rules | `(tactic| walk_at "A.hop") => `(tactic| try simp only [aMtF, aFmt, aJs, aEqO, aNeO, aReprF, aRevT, aIsiT, aInt, aStrI, aEnum, aZip, aMulL, aCount, aAugS, aSetOf, aSrtSet, aSum, aDNew, aDIn, aDIx, aDPut, aLenD, aListD, aBits, aDsp1, aBool, aSorted, wipeA, aSeq, aNext, aSet, aVar, atV_s, onB_b, onI_i, onII_i, onL1_i, onL2_i, it_l, it_t, it_s, it_x, ix_l, ix_t, ix_s, add_i, add_x, eq_i, eq_x, eq_b, is_b, aC, aNil, aCons, aOp, aUn, aTup, aLst, aCB, aNot, aAnd, aOr, aTst, aIfE, aAndV, aOrV, aNotV, aChn, aDrop, aRet, aRetN, aIf, agName, agNil, agCons, agTup, aAsg, aPar, aAug, aFor, aRng1, aRng2, aIter, aLc, aYes,
  aCl, aMt, aMk, aFl, aFst, aNeg, aI2, aI20, aLe, aLt, aGt, aGe, aSub, aMod, aMul, aFdv, aPow, aXor, aShl, aShr, agSub, aoN, aoS, aSl, aRev, aLen, aList, aTupOf, aLRg1, aLRg2, aAbs, aI2N, aMax, aMin, aDm, aAll, aAny, aBM, aApp, aPopAt, aPop, aClear, aRevM, aExt, aRepr, aClD, aLnSt, aIAdd, aBreak, aCont,
  aEnd, startA, List.map_cons, List.map_nil, List.cons_append, List.nil_append, List.length_cons, List.length_nil, List.replicate, List.getElem?_cons_zero, List.getElem?_cons_succ, List.set_cons_zero, List.set_cons_succ, Nat.reduceAdd, Nat.reduceSub, Nat.succ_eq_add_one, Int.reduceAdd, Int.reduceMul,
  reduceIte, Bool.false_eq_true, Bool.not_true, Bool.not_false, ite_true, ite_false])
local macro_rules | `(tactic| walk_at "A.lop") => `(tactic| try simp only [decide_true, decide_false, aMtF, aFmt, aJs, aEqO, aNeO, aReprF, aRevT, aIsiT, aInt, aStrI, aEnum, aZip, aMulL, aCount, aAugS, aSetOf, aSrtSet, aSum, aDNew, aDIn, aDIx, aDPut, aLenD, aListD, aBits, aDsp1, aBool, aSorted, wipeA, aSeq, aNext, aSet, aVar, atV_s, onB_b, onI_i, onII_i, onL1_i, onL2_i, it_l, it_t, it_s, it_x, ix_l, ix_t, ix_s, add_i, add_x, eq_i, eq_x, eq_b, is_b, aC, aNil, aCons, aOp, aUn, aTup, aLst, aCB, aNot, aAnd, aOr, aTst, aIfE, aAndV, aOrV, aNotV, aChn, aDrop, aRet, aRetN, aIf, agName, agNil, agCons, agTup, aAsg, aPar, aAug, aFor, aRng1, aRng2, aIter, aLc, aYes,
  aCl, aMt, aMk, aFl, aFst, aNeg, aI2, aI20, aLe, aLt, aGt, aGe, aSub, aMod, aMul, aFdv, aPow, aXor, aShl, aShr, agSub, aoN, aoS, aSl, aRev, aLen, aList, aTupOf, aLRg1, aLRg2, aAbs, aI2N, aMax, aMin, aDm, aBM, aApp, aPopAt, aPop, aClear, aRevM, aExt, aClD, aLnSt, aIAdd, aBreak, aCont,
  aEnd, startA, List.map_cons, List.map_nil, List.cons_append, List.nil_append, List.length_cons, List.length_nil, List.replicate, List.getElem?_cons_zero, List.getElem?_cons_succ, List.set_cons_zero, List.set_cons_succ, Nat.reduceAdd, Nat.reduceSub, Nat.succ_eq_add_one, Int.reduceAdd, Int.reduceMul,
  reduceIte, Bool.false_eq_true, Bool.not_true, Bool.not_false, ite_true, ite_false])
end A

/-! ## boxes: what was asked is taken back; what was said yes to is free -/
namespace A
open PySem PySem.Spec L2 PyProof.Rows
local macro_rules | `(tactic| walk_at "A.go") => `(tactic| simp only [aSeq, aNext, aSet, aVar, atV_s, onB_b, onI_i, onII_i, onL1_i, onL2_i, it_l, it_t, it_s, it_x, ix_l, ix_t, ix_s, add_i, add_x, eq_i, eq_x, eq_b, is_b, aC, aNil, aCons, aOp, aUn, aTup, aLst, aCB, aNot, aAnd, aOr, aTst, aIfE, aAndV, aOrV, aNotV, aChn, aDrop, aRet, aRetN, aIf, agName, agNil, agCons, agTup, aAsg, aPar, aAug, aFor, aRng1, aRng2, aIter, aLc, aYes,
  aCl, aMt, aMk, aFl, aFst, aNeg, aI2, aI20, aLe, aLt, aGt, aGe, aSub, aMod, aMul, aFdv, aPow, aXor, aShl, aShr, agSub, aoN, aoS, aSl, aRev, aLen, aList, aTupOf, aLRg1, aLRg2, aAbs, aI2N, aMax, aMin, aDm, aAll, aAny, aBM, aApp, aPopAt, aPop, aClear, aRevM, aExt, aRepr, aClD, aLnSt, aIAdd, aBreak, aCont,
  aEnd, startA, List.map_cons, List.map_nil, List.cons_append, List.nil_append, List.length_cons, List.length_nil, List.replicate, List.getElem?_cons_zero, List.getElem?_cons_succ, List.set_cons_zero, List.set_cons_succ, Nat.reduceAdd, Nat.reduceSub, Nat.succ_eq_add_one, Int.reduceAdd, Int.reduceMul,
  reduceIte, Bool.false_eq_true, Bool.not_true, Bool.not_false, ite_true, ite_false])
local macro_rules | `(tactic| walk_at "A.hop") => `(tactic| try simp only [aMtF, aFmt, aJs, aEqO, aNeO, aReprF, aRevT, aIsiT, aInt, aStrI, aEnum, aZip, aMulL, aCount, aAugS, aSetOf, aSrtSet, aSum, aDNew, aDIn, aDIx, aDPut, aLenD, aListD, aBits, aDsp1, aBool, aSorted, wipeA, aSeq, aNext, aSet, aVar, atV_s, onB_b, onI_i, onII_i, onL1_i, onL2_i, it_l, it_t, it_s, it_x, ix_l, ix_t, ix_s, add_i, add_x, eq_i, eq_x, eq_b, is_b, aC, aNil, aCons, aOp, aUn, aTup, aLst, aCB, aNot, aAnd, aOr, aTst, aIfE, aAndV, aOrV, aNotV, aChn, aDrop, aRet, aRetN, aIf, agName, agNil, agCons, agTup, aAsg, aPar, aAug, aFor, aRng1, aRng2, aIter, aLc, aYes,
  aCl, aMt, aMk, aFl, aFst, aNeg, aI2, aI20, aLe, aLt, aGt, aGe, aSub, aMod, aMul, aFdv, aPow, aXor, aShl, aShr, agSub, aoN, aoS, aSl, aRev, aLen, aList, aTupOf, aLRg1, aLRg2, aAbs, aI2N, aMax, aMin, aDm, aAll, aAny, aBM, aApp, aPopAt, aPop, aClear, aRevM, aExt, aRepr, aClD, aLnSt, aIAdd, aBreak, aCont,
  aEnd, startA, List.map_cons, List.map_nil, List.cons_append, List.nil_append, List.length_cons, List.length_nil, List.replicate, List.getElem?_cons_zero, List.getElem?_cons_succ, List.set_cons_zero, List.set_cons_succ, Nat.reduceAdd, Nat.reduceSub, Nat.succ_eq_add_one, Int.reduceAdd, Int.reduceMul,
  reduceIte, Bool.false_eq_true, Bool.not_true, Bool.not_false, ite_true, ite_false])
local macro_rules | `(tactic| walk_at "A.lop") => `(tactic| try simp only [decide_true, decide_false, aMtF, aFmt, aJs, aEqO, aNeO, aReprF, aRevT, aIsiT, aInt, aStrI, aEnum, aZip, aMulL, aCount, aAugS, aSetOf, aSrtSet, aSum, aDNew, aDIn, aDIx, aDPut, aLenD, aListD, aBits, aDsp1, aBool, aSorted, wipeA, aSeq, aNext, aSet, aVar, atV_s, onB_b, onI_i, onII_i, onL1_i, onL2_i, it_l, it_t, it_s, it_x, ix_l, ix_t, ix_s, add_i, add_x, eq_i, eq_x, eq_b, is_b, aC, aNil, aCons, aOp, aUn, aTup, aLst, aCB, aNot, aAnd, aOr, aTst, aIfE, aAndV, aOrV, aNotV, aChn, aDrop, aRet, aRetN, aIf, agName, agNil, agCons, agTup, aAsg, aPar, aAug, aFor, aRng1, aRng2, aIter, aLc, aYes,
  aCl, aMt, aMk, aFl, aFst, aNeg, aI2, aI20, aLe, aLt, aGt, aGe, aSub, aMod, aMul, aFdv, aPow, aXor, aShl, aShr, agSub, aoN, aoS, aSl, aRev, aLen, aList, aTupOf, aLRg1, aLRg2, aAbs, aI2N, aMax, aMin, aDm, aBM, aApp, aPopAt, aPop, aClear, aRevM, aExt, aClD, aLnSt, aIAdd, aBreak, aCont,
  aEnd, startA, List.map_cons, List.map_nil, List.cons_append, List.nil_append, List.length_cons, List.length_nil, List.replicate, List.getElem?_cons_zero, List.getElem?_cons_succ, List.set_cons_zero, List.set_cons_succ, Nat.reduceAdd, Nat.reduceSub, Nat.succ_eq_add_one, Int.reduceAdd, Int.reduceMul,
  reduceIte, Bool.false_eq_true, Bool.not_true, Bool.not_false, ite_true, ite_false])
/-! ### repr of answers -/
/-! ### what may still be counted on -/
section
variable {m : Nat} {ps : List (Int × Bool)} {k i : Int} {u : Yd}
end
end A

namespace A
open PySem PySem.Spec L2 PyProof.Rows
local macro_rules | `(tactic| walk_at "A.go") => `(tactic| simp only [aSeq, aNext, aSet, aVar, atV_s, onB_b, onI_i, onII_i, onL1_i, onL2_i, it_l, it_t, it_s, it_x, ix_l, ix_t, ix_s, add_i, add_x, eq_i, eq_x, eq_b, is_b, aC, aNil, aCons, aOp, aUn, aTup, aLst, aCB, aNot, aAnd, aOr, aTst, aIfE, aAndV, aOrV, aNotV, aChn, aDrop, aRet, aRetN, aIf, agName, agNil, agCons, agTup, aAsg, aPar, aAug, aFor, aRng1, aRng2, aIter, aLc, aYes,
  aCl, aMt, aMk, aFl, aFst, aNeg, aI2, aI20, aLe, aLt, aGt, aGe, aSub, aMod, aMul, aFdv, aPow, aXor, aShl, aShr, agSub, aoN, aoS, aSl, aRev, aLen, aList, aTupOf, aLRg1, aLRg2, aAbs, aI2N, aMax, aMin, aDm, aAll, aAny, aBM, aApp, aPopAt, aPop, aClear, aRevM, aExt, aRepr, aClD, aLnSt, aIAdd, aBreak, aCont,
  aEnd, startA, List.map_cons, List.map_nil, List.cons_append, List.nil_append, List.length_cons, List.length_nil, List.replicate, List.getElem?_cons_zero, List.getElem?_cons_succ, List.set_cons_zero, List.set_cons_succ, Nat.reduceAdd, Nat.reduceSub, Nat.succ_eq_add_one, Int.reduceAdd, Int.reduceMul,
  reduceIte, Bool.false_eq_true, Bool.not_true, Bool.not_false, ite_true, ite_false])
local macro_rules | `(tactic| walk_at "A.hop") => `(tactic| try simp only [aMtF, aFmt, aJs, aEqO, aNeO, aReprF, aRevT, aIsiT, aInt, aStrI, aEnum, aZip, aMulL, aCount, aAugS, aSetOf, aSrtSet, aSum, aDNew, aDIn, aDIx, aDPut, aLenD, aListD, aBits, aDsp1, aBool, aSorted, wipeA, aSeq, aNext, aSet, aVar, atV_s, onB_b, onI_i, onII_i, onL1_i, onL2_i, it_l, it_t, it_s, it_x, ix_l, ix_t, ix_s, add_i, add_x, eq_i, eq_x, eq_b, is_b, aC, aNil, aCons, aOp, aUn, aTup, aLst, aCB, aNot, aAnd, aOr, aTst, aIfE, aAndV, aOrV, aNotV, aChn, aDrop, aRet, aRetN, aIf, agName, agNil, agCons, agTup, aAsg, aPar, aAug, aFor, aRng1, aRng2, aIter, aLc, aYes,
  aCl, aMt, aMk, aFl, aFst, aNeg, aI2, aI20, aLe, aLt, aGt, aGe, aSub, aMod, aMul, aFdv, aPow, aXor, aShl, aShr, agSub, aoN, aoS, aSl, aRev, aLen, aList, aTupOf, aLRg1, aLRg2, aAbs, aI2N, aMax, aMin, aDm, aAll, aAny, aBM, aApp, aPopAt, aPop, aClear, aRevM, aExt, aRepr, aClD, aLnSt, aIAdd, aBreak, aCont,
  aEnd, startA, List.map_cons, List.map_nil, List.cons_append, List.nil_append, List.length_cons, List.length_nil, List.replicate, List.getElem?_cons_zero, List.getElem?_cons_succ, List.set_cons_zero, List.set_cons_succ, Nat.reduceAdd, Nat.reduceSub, Nat.succ_eq_add_one, Int.reduceAdd, Int.reduceMul,
  reduceIte, Bool.false_eq_true, Bool.not_true, Bool.not_false, ite_true, ite_false])
local macro_rules | `(tactic| walk_at "A.lop") => `(tactic| try simp only [decide_true, decide_false, aMtF, aFmt, aJs, aEqO, aNeO, aReprF, aRevT, aIsiT, aInt, aStrI, aEnum, aZip, aMulL, aCount, aAugS, aSetOf, aSrtSet, aSum, aDNew, aDIn, aDIx, aDPut, aLenD, aListD, aBits, aDsp1, aBool, aSorted, wipeA, aSeq, aNext, aSet, aVar, atV_s, onB_b, onI_i, onII_i, onL1_i, onL2_i, it_l, it_t, it_s, it_x, ix_l, ix_t, ix_s, add_i, add_x, eq_i, eq_x, eq_b, is_b, aC, aNil, aCons, aOp, aUn, aTup, aLst, aCB, aNot, aAnd, aOr, aTst, aIfE, aAndV, aOrV, aNotV, aChn, aDrop, aRet, aRetN, aIf, agName, agNil, agCons, agTup, aAsg, aPar, aAug, aFor, aRng1, aRng2, aIter, aLc, aYes,
  aCl, aMt, aMk, aFl, aFst, aNeg, aI2, aI20, aLe, aLt, aGt, aGe, aSub, aMod, aMul, aFdv, aPow, aXor, aShl, aShr, agSub, aoN, aoS, aSl, aRev, aLen, aList, aTupOf, aLRg1, aLRg2, aAbs, aI2N, aMax, aMin, aDm, aBM, aApp, aPopAt, aPop, aClear, aRevM, aExt, aClD, aLnSt, aIAdd, aBreak, aCont,
  aEnd, startA, List.map_cons, List.map_nil, List.cons_append, List.nil_append, List.length_cons, List.length_nil, List.replicate, List.getElem?_cons_zero, List.getElem?_cons_succ, List.set_cons_zero, List.set_cons_succ, Nat.reduceAdd, Nat.reduceSub, Nat.succ_eq_add_one, Int.reduceAdd, Int.reduceMul,
  reduceIte, Bool.false_eq_true, Bool.not_true, Bool.not_false, ite_true, ite_false])
noncomputable def fenceB (u : Yd) (hp : List Int) : Bool := decide (u.R (fun k => k ∉ hp) < u.worth (rng u.len))
def noL (ps : List (Int × Bool)) : List Int := (ps.filter fun p => !p.2).map (·.1)
def wd (fn : Bool) : Str := if fn then "fence" else "ring"
noncomputable def holdsB (u : Yd) (ps : List (Int × Bool)) (i : Int) (a fn : Bool) (hp : List Int) : Bool :=
  decide (i ∈ hp) && if fn then a && ((wo hp i).all (fun x => decide (x ∈ noL (ps ++ [(i, a)]))) && fenceB u hp) else !a && (!(wo hp i).any (fun x => decide (x ∈ noL (ps ++ [(i, a)]))) && !u.adds (wo hp i) i)
def sp_out_of (K : PySem.W.Frag) : SpA := fun ds S Q E => ∃ y u d hp, ds = [.own y, d] ∧ IsY K S y u ∧ asL S d = some (List.map D.int hp) ∧ Heap_ u.len hp ∧ ∀ ns : List Int, ns.Pairwise (· < ·) → (∀ k, k ∈ ns ↔ InR u.len k ∧ k ∉ hp) → NewL (List.map D.int ns) S Q
theorem len_out_of (K : PySem.W.Frag) : ∀ ds S Q E, sp_out_of K ds S Q E → ds.length = 2 := by
  rintro ds S Q E ⟨_, _, _, _, rfl, _⟩
  rfl
def sp_is_fence (K : PySem.W.Frag) : SpA := fun ds S Q E => ∃ y u d hp, ds = [.own y, d] ∧ IsY K S y u ∧ asL S d = some (List.map D.int hp) ∧ Heap_ u.len hp ∧ Q (.bl (fenceB u hp)) S
theorem len_is_fence (K : PySem.W.Frag) : ∀ ds S Q E, sp_is_fence K ds S Q E → ds.length = 2 := by
  rintro ds S Q E ⟨_, _, _, _, rfl, _⟩
  rfl
def sp_told_no (K : PySem.W.Frag) : SpA := fun ds S Q E => ∃ d ps, ds = [d] ∧ asL S d = some (List.map prB ps) ∧ NewL ((noL ps).map .int) S Q
def sp_is_paper (K : PySem.W.Frag) : SpA := fun ds S Q E => ∃ y u fn d hp, ds = [.own y, .tup [.str (wd fn), d]] ∧ IsY K S y u ∧ asL S d = some (List.map D.int hp) ∧ Heap_ u.len hp ∧ Q (.bl true) S
def sp_holds (K : PySem.W.Frag) : SpA := fun ds S Q E => ∃ y u d ps i a fn e hp, ds = [.own y, d, .tup [.str (wd fn), e]] ∧ IsY K S y u ∧ asL S d = some (List.map prB (ps ++ [(i, a)])) ∧ Asks u.len (ps ++ [(i, a)]) ∧ asL S e = some (List.map D.int hp) ∧ Heap_ u.len hp ∧ Q (.bl (holdsB u ps i a fn hp)) S
theorem len_holds (K : PySem.W.Frag) : ∀ ds S Q E, sp_holds K ds S Q E → ds.length = 3 := by
  rintro ds S Q E ⟨_, _, _, _, _, _, _, _, _, rfl, _⟩
  rfl
def a_out_of (K : PySem.W.Frag) : AS := (aRet (aCl (sp_but K) (aCons (aMt (okY K) "things" (sp_Yard_things K) (aVar 0) aNil) (aCons (aVar 1) aNil))))
def a_is_fence (K : PySem.W.Frag) : AS := (aSeq (aDrop (aCl (sp_want_heap K) (aCons (aVar 0) (aCons (aVar 1) aNil))))
 (aRet (aOp aLt (aMtF (okY K) "worth_of" (fam_worth_of K) (aVar 0) (aCons (aCl (sp_out_of K) (aCons (aVar 0) (aCons (aVar 1) aNil))) aNil)) (aMt (okY K) "whole" (sp_Yard_whole K) (aVar 0) aNil))))
def a_holds (K : PySem.W.Frag) : AS := (aSeq (aAsg (aOp aIx (aVar 1) (aUn aNeg (aC (.int 1)))) (agTup 2 (agCons (agName 3) (agCons (agName 4) agNil))))
 (aSeq (aIf (aOr (aNot (aTst (aCl (sp_is_paper K) (aCons (aVar 0) (aCons (aVar 2) aNil))))) (aTst (aOp (aIn true) (aVar 3) (aOp aIx (aVar 2) (aC (.int 1)))))) (aRet (aC (.bl false))) aNext)
 (aSeq (aAsg (aVar 2) (agTup 2 (agCons (agName 5) (agCons (agName 6) agNil))))
 (aSeq (aAsg (aTup (aCons (aCl (sp_but K) (aCons (aVar 6) (aCons (aLst (aCons (aVar 3) aNil)) aNil))) (aCons (aCl (sp_told_no K) (aCons (aVar 1) aNil)) aNil))) (agTup 2 (agCons (agName 7) (agCons (agName 8) agNil))))
 (aSeq (aIf (aTst (aOp (aEqD false) (aVar 5) (aC (.str "fence")))) (aRet (aAndV (aVar 4) (aAndV (aCB aAll (aCons (aLc (aIter (aVar 7)) (agName 9) aYes (aOp (aIn false) (aVar 9) (aVar 8)) [9]) aNil)) (aCl (sp_is_fence K) (aCons (aVar 0) (aCons (aVar 6) aNil)))))) aNext)
 (aRet (aAndV (aNotV (aVar 4)) (aAndV (aNotV (aCB aAny (aCons (aLc (aIter (aVar 7)) (agName 9) aYes (aOp (aIn false) (aVar 9) (aVar 8)) [9]) aNil))) (aNotV (aCl (sp_adds K) (aCons (aVar 0) (aCons (aVar 7) (aCons (aVar 3) aNil)))))))))))))
end A

/-! ## dicts whose keys are tuples of ints -/
namespace A
open PySem PySem.Spec L2 PyProof.Rows
local macro_rules | `(tactic| walk_at "A.go") => `(tactic| simp only [aSeq, aNext, aSet, aVar, atV_s, onB_b, onI_i, onII_i, onL1_i, onL2_i, it_l, it_t, it_s, it_x, ix_l, ix_t, ix_s, add_i, add_x, eq_i, eq_x, eq_b, is_b, aC, aNil, aCons, aOp, aUn, aTup, aLst, aCB, aNot, aAnd, aOr, aTst, aIfE, aAndV, aOrV, aNotV, aChn, aDrop, aRet, aRetN, aIf, agName, agNil, agCons, agTup, aAsg, aPar, aAug, aFor, aRng1, aRng2, aIter, aLc, aYes,
  aCl, aMt, aMk, aFl, aFst, aNeg, aI2, aI20, aLe, aLt, aGt, aGe, aSub, aMod, aMul, aFdv, aPow, aXor, aShl, aShr, agSub, aoN, aoS, aSl, aRev, aLen, aList, aTupOf, aLRg1, aLRg2, aAbs, aI2N, aMax, aMin, aDm, aAll, aAny, aBM, aApp, aPopAt, aPop, aClear, aRevM, aExt, aRepr, aClD, aLnSt, aIAdd, aBreak, aCont,
  aEnd, startA, List.map_cons, List.map_nil, List.cons_append, List.nil_append, List.length_cons, List.length_nil, List.replicate, List.getElem?_cons_zero, List.getElem?_cons_succ, List.set_cons_zero, List.set_cons_succ, Nat.reduceAdd, Nat.reduceSub, Nat.succ_eq_add_one, Int.reduceAdd, Int.reduceMul,
  reduceIte, Bool.false_eq_true, Bool.not_true, Bool.not_false, ite_true, ite_false])
local macro_rules | `(tactic| walk_at "A.hop") => `(tactic| try simp only [aMtF, aFmt, aJs, aEqO, aNeO, aReprF, aRevT, aIsiT, aInt, aStrI, aEnum, aZip, aMulL, aCount, aAugS, aSetOf, aSrtSet, aSum, aDNew, aDIn, aDIx, aDPut, aLenD, aListD, aBits, aDsp1, aBool, aSorted, wipeA, aSeq, aNext, aSet, aVar, atV_s, onB_b, onI_i, onII_i, onL1_i, onL2_i, it_l, it_t, it_s, it_x, ix_l, ix_t, ix_s, add_i, add_x, eq_i, eq_x, eq_b, is_b, aC, aNil, aCons, aOp, aUn, aTup, aLst, aCB, aNot, aAnd, aOr, aTst, aIfE, aAndV, aOrV, aNotV, aChn, aDrop, aRet, aRetN, aIf, agName, agNil, agCons, agTup, aAsg, aPar, aAug, aFor, aRng1, aRng2, aIter, aLc, aYes,
  aCl, aMt, aMk, aFl, aFst, aNeg, aI2, aI20, aLe, aLt, aGt, aGe, aSub, aMod, aMul, aFdv, aPow, aXor, aShl, aShr, agSub, aoN, aoS, aSl, aRev, aLen, aList, aTupOf, aLRg1, aLRg2, aAbs, aI2N, aMax, aMin, aDm, aAll, aAny, aBM, aApp, aPopAt, aPop, aClear, aRevM, aExt, aRepr, aClD, aLnSt, aIAdd, aBreak, aCont,
  aEnd, startA, List.map_cons, List.map_nil, List.cons_append, List.nil_append, List.length_cons, List.length_nil, List.replicate, List.getElem?_cons_zero, List.getElem?_cons_succ, List.set_cons_zero, List.set_cons_succ, Nat.reduceAdd, Nat.reduceSub, Nat.succ_eq_add_one, Int.reduceAdd, Int.reduceMul,
  reduceIte, Bool.false_eq_true, Bool.not_true, Bool.not_false, ite_true, ite_false])
local macro_rules | `(tactic| walk_at "A.lop") => `(tactic| try simp only [decide_true, decide_false, aMtF, aFmt, aJs, aEqO, aNeO, aReprF, aRevT, aIsiT, aInt, aStrI, aEnum, aZip, aMulL, aCount, aAugS, aSetOf, aSrtSet, aSum, aDNew, aDIn, aDIx, aDPut, aLenD, aListD, aBits, aDsp1, aBool, aSorted, wipeA, aSeq, aNext, aSet, aVar, atV_s, onB_b, onI_i, onII_i, onL1_i, onL2_i, it_l, it_t, it_s, it_x, ix_l, ix_t, ix_s, add_i, add_x, eq_i, eq_x, eq_b, is_b, aC, aNil, aCons, aOp, aUn, aTup, aLst, aCB, aNot, aAnd, aOr, aTst, aIfE, aAndV, aOrV, aNotV, aChn, aDrop, aRet, aRetN, aIf, agName, agNil, agCons, agTup, aAsg, aPar, aAug, aFor, aRng1, aRng2, aIter, aLc, aYes,
  aCl, aMt, aMk, aFl, aFst, aNeg, aI2, aI20, aLe, aLt, aGt, aGe, aSub, aMod, aMul, aFdv, aPow, aXor, aShl, aShr, agSub, aoN, aoS, aSl, aRev, aLen, aList, aTupOf, aLRg1, aLRg2, aAbs, aI2N, aMax, aMin, aDm, aBM, aApp, aPopAt, aPop, aClear, aRevM, aExt, aClD, aLnSt, aIAdd, aBreak, aCont,
  aEnd, startA, List.map_cons, List.map_nil, List.cons_append, List.nil_append, List.length_cons, List.length_nil, List.replicate, List.getElem?_cons_zero, List.getElem?_cons_succ, List.set_cons_zero, List.set_cons_succ, Nat.reduceAdd, Nat.reduceSub, Nat.succ_eq_add_one, Int.reduceAdd, Int.reduceMul,
  reduceIte, Bool.false_eq_true, Bool.not_true, Bool.not_false, ite_true, ite_false])
abbrev TKey := List Key
def valT (m : List (TKey × D)) (k : TKey) : Option D := (m.find? fun p => decide (p.1 = k)).map (·.2)
def putT (m : List (TKey × D)) (k : TKey) (d : D) : List (TKey × D) := if (m.any fun p => decide (p.1 = k)) = true then m.map (fun p => if p.1 = k then (p.1, d) else p) else m ++ [(k, d)]
def tkey (l : List Int) : TKey := l.map Sum.inl
theorem tkey_kV (l : List Int) : (tkey l).map kV = l.map V.int := by
  unfold tkey
  rw [List.map_map]
  rfl
section
variable {K : KW} {F H : Hp} {S R : Sto}
theorem DvP.valT {k : TKey} : ∀ {l : List (TKey × V)} {m : List (TKey × D)}, DvP K F l m → (A.valT m k = Option.none ∧ valV l k = Option.none) ∨ ∃ d v, A.valT m k = Option.some d ∧ valV l k = Option.some v ∧ Dv K F v d
  | _, _, .nil => .inl ⟨rfl, rfl⟩
  | (k1, v) :: l, (k2, d) :: m, .cons h t => by
    have e : k1 = k2 := h.1
    subst e
    unfold A.valT valV
    rw [List.find?_cons, List.find?_cons]
    by_cases q : k1 = k
    · simp only [q, decide_true]
      exact .inr ⟨d, v, rfl, rfl, h.2⟩
    · simp only [q, decide_false]
      exact DvP.valT t
theorem DvP.anyT {k : TKey} : ∀ {l : List (TKey × V)} {m : List (TKey × D)}, DvP K F l m → (l.any fun p => decide (p.1 = k)) = m.any fun p => decide (p.1 = k)
  | _, _, .nil => rfl
  | (k1, v) :: l, (k2, d) :: m, .cons h t => by
    have e : k1 = k2 := h.1
    subst e
    rw [List.any_cons, List.any_cons, DvP.anyT t]
theorem DvP.mapT {k : TKey} {v : V} {d : D} (q : Dv K F v d) : ∀ {l : List (TKey × V)} {m : List (TKey × D)}, DvP K F l m → DvP K F (l.map fun p => if p.1 = k then (p.1, v) else p) (m.map fun p => if p.1 = k then (p.1, d) else p)
  | _, _, .nil => .nil
  | (k1, v1) :: l, (k2, d1) :: m, .cons h t => by
    have e : k1 = k2 := h.1
    subst e
    rw [List.map_cons, List.map_cons]
    by_cases z : k1 = k
    · simp only [z, if_pos]
      exact .cons ⟨rfl, q⟩ (DvP.mapT q t)
    · simp only [z, if_false]
      exact .cons h (DvP.mapT q t)
theorem DvP.putT {k : TKey} {v : V} {d : D} {l : List (TKey × V)} {m : List (TKey × D)} (h : DvP K F l m) (q : Dv K F v d) : DvP K F (L2.putK l k v) (A.putT m k d) := by
  unfold L2.putK A.putT
  rw [h.anyT]
  split
  · exact h.mapT q
  · exact DvP.snoc q h
theorem putT_len (m : List (TKey × D)) (k : TKey) (d : D) : (putT m k d).length ≤ m.length + 1 := by
  unfold putT
  split
  · rw [List.length_map]; omega
  · rw [List.length_append]; exact Nat.le_refl _
end
section
variable {X : Cx} {W : WX} {o i e : Expr} {to ti te : TE} {ao ai ae : AE} {pos pos' : Pos} {t : TA} {ar : AA}
/-- {} to be filled by tuples -/
def aDNewT : AE := fun _ S Q _ => ∀ a, S a = none → Q (.own a) (put S a (.dtt []))
theorem ea_dnewT : EA X W (.Dict [] [] pos) tDNewT aDNewT := ⟨pe_dnewT, fun σ H F S R ρ Q E P T en wo q po => fun p hp =>
  po (.ref p) _ F _ (.own p) (Same.refl _) (T.owned (c := .dtt []) hp ⟨Nat.zero_le _, [], upd_same, .nil⟩) (.own p) (q p (T.free hp).2.1)⟩
/-- any tuple of ints and texts is a key -/
theorem key_ofT {pins : List (Addr × Obj)} {σ : St} {H : Hp} {s : Shared} {ks : TKey} {b : Addr} (I : Inv X pins σ H s) (h : SqT X.K H b (ks.map kV)) : (tupleKind (mixKind X.prog X.w)).is s.heap ks b := by
  obtain ⟨its, r, ⟨o, h1, h2, n, h3⟩, _⟩ := I.tuple h
  exact ⟨o, its.toArray, n, h1, h2, h3, by simpa using items_are r⟩
def tDGetT (K : PySem.W.Frag) (td ty : TE) : TE := fun σ H Q => td σ H fun x H1 => ty σ H1 fun y H2 => ∃ a b kvs k v, x = .ref a ∧ H2 a = some (.dT kvs) ∧ y = .ref b ∧ SqT K H2 b (k.map kV) ∧ valV kvs k = some v ∧ Q v H2
theorem pe_dgetT {td ty : TE} (hu : X.A.units + 1 < cLine) (ho : PE X o td) (hi : PE X i ty) (hs : NoSl i) : PE X (.Subscript o i pos) (tDGetT X.K td ty) := by
  refine ⟨fun pins s σ H Q I h => ?_⟩
  refine subD_of PySem.F.slot_dict_getitem.lookup hs (thn (ho.run pins s σ H _ I h) fun u s1 ⟨x, H1, I1, rx, q1⟩ => thn (hi.run pins s1 σ H1 _ I1 q1) fun iv s2 ⟨y, H2, I2, ry, a, b, kvs, k, v, ex, e, ey, hk, hv, q2⟩ => ?_)
  subst ex ey
  obtain rfl : u = Value.ref a := rx
  obtain rfl : iv = Value.ref b := ry
  obtain ⟨z, hd, xs, rel, dd⟩ := dt_of I2.hok e
  obtain ⟨w', hw, rw'⟩ := RelO.some_of (v := v) (o := (atKey xs k).map (·.2)) (by rw [← hv]; exact rel.val k)
  obtain ⟨p, hp, hp2⟩ := Option.map_eq_some_iff.mp hw
  refine ⟨?_, ?_⟩
  · obtain ⟨o, es, ep, h1, h2, _⟩ := dd
    exact ⟨o, h1, h2.1⟩
  · refine wpAny_getItem_heap (tupleKind_room_in1 hu) (key_ofT I2 hk) dd hp ?_
    rw [hp2]
    exact ⟨v, H2, I2.tok _, rw', q2⟩
/-- d[k], k a tuple of ints -/
def aDIxT (ao ai : AE) : AE := fun ρ S Q E => ao ρ S (fun d S1 => ai ρ S1 (fun e S2 => ∃ a m l x, d = .own a ∧ S2 a = some (.dtt m) ∧ e = .tup (List.map D.int l) ∧ valT m (tkey l) = some x ∧ Q x S2) E) E
theorem ea_dixT {k : Nat} (hr : RoomG k X.A) (ho : EA X W o to ao) (hi : EA X W i ti ai) (hs : NoSl i := by intro _ _; rfl) : EA X W (.Subscript o i pos) (tDGetT X.K to ti) (aDIxT ao ai) := by
  refine ⟨pe_dgetT (room1 hr) ho.pe hi.pe hs, fun σ H F S R ρ Q E P T en wo q po => ho.re σ H F S R ρ _ E _ T en wo q fun v H1 F1 S1 d e1 T1 dv q1 => ?_⟩
  refine hi.re σ H1 F1 S1 R ρ _ E _ T1 (en.mono e1) (wo.mono e1) q1 fun u H2 F2 S2 e e2 T2 du q2 => ?_
  obtain ⟨a, m, l, x, rfl, hS, rfl, h3, q3⟩ := q2
  cases dv
  obtain ⟨_, z, kvs, hH, hp⟩ := T2.own _ _ hS
  cases du with
  | tup ht zz hl =>
    have el := hl.toInts
    subst el
    rcases hp.valT (k := tkey l) with ⟨w, _⟩ | ⟨d, w', z1, z2, z3⟩
    · rw [h3] at w; cases w
    · rw [h3] at z1
      cases z1
      exact ⟨a, _, kvs, tkey l, w', rfl, hH, rfl, by rw [tkey_kV]; exact SqT.same T2.le ht, z2, po w' H2 F2 S2 x (e1.trans e2) T2 z3 q3⟩
/-- d[tuple(xs)] = v, xs a list of ints -/
def aDPutT (ao al av : AE) : AS := fun Dn ρ S => av ρ S (fun v S1 => ao ρ S1 (fun d S2 => al ρ S2 (fun e S3 => ∃ a m l, d = .own a ∧ S3 a = some (.dtt m) ∧ asL S3 e = some (List.map D.int l) ∧ m.length < sizeLine ∧ Dn.nx ρ (put S3 a (.dtt (putT m (tkey l) v)))) (Dn.xx ρ)) (Dn.xx ρ)) (Dn.xx ρ)
theorem s_dputT {k : Nat} {tv tl : TE} {av al : AE} {value : Expr} {p cpos : Pos} (hr : RoomG k X.A) (hm : X.mg "tuple" = none) (hv : EA X W value tv av) (ho : EA X W o to ao) (hl : EA X W e tl al) (hg : Gl X "tuple" := by rfl)
    (he : starEach [e] X.env = (false, eval e X.env) :: starEach [] X.env := by rfl) (hs : swapsWith value (some (.Subscript o (.Call (.Name "tuple" p) [e] [] cpos) pos')) pos.line X.env = pure false := by rfl) :
    SA X W (.Assign [.Subscript o (.Call (.Name "tuple" p) [e] [] cpos) pos'] value pos) (sDPut to (tCB (fun xs H Q => ∃ p ys, xs = [.ref p] ∧ ((SqL X.K H p ys ∧ ∀ l, H l = none → Q (.ref l) (upd H l (.tup ys))) ∨ (SqT X.K H p ys ∧ Q (.ref p) H))) (tCons tl tNil)) tv) (aDPutT ao al av) := by
  refine ⟨ps_dput (room1 hr) ho.pe (pe_callTy call_tuple_of hg hm (by decide +kernel) (pa_cons hl.pe pa_nil he) (by decide) (by decide) he rfl) hv.pe hs, fun σ H F S R ρ Da Dc T en wo dn q => hv.re σ H F S R ρ _ _ _ T en (wo.at_ en) q fun v H1 F1 S1 d e1 T1 dv q1 => ?_⟩
  refine ho.re σ H1 F1 S1 R ρ _ _ _ T1 (en.mono e1) ((wo.at_ en).mono e1) q1 fun x H2 F2 S2 dx e2 T2 dvx q2 => ?_
  have e12 := e1.trans e2
  refine hl.re σ H2 F2 S2 R ρ _ _ _ T2 (en.mono e12) ((wo.at_ en).mono e12) q2 fun y H3 F3 S3 dy e3 T3 dvy q3 => ?_
  obtain ⟨a, m, l, rfl, hS, hk, hz, q4⟩ := q3
  cases dvx
  obtain ⟨b, ys, rfl, h1, h2, _⟩ := asL_ok T3 dvy hk
  have el := h2.toInts
  subst el
  refine ⟨b, _, rfl, .inl ⟨SqL.of h1, fun p hp => ?_⟩⟩
  have T4 := T3.frozen (o := .tup (l.map V.int)) hp
  have kF : Same F3 (upd F3 p (.tup (l.map V.int))) := same_upd (T3.free hp).1
  obtain ⟨_, _, kvs, hH, hp2⟩ := T4.own _ _ hS
  have eb : upd H3 p (.tup (l.map V.int)) p = some (.tup ((tkey l).map kV)) := by rw [upd_same, tkey_kV]
  refine ⟨a, _, rfl, DPut.t hH eb (by rw [hp2.len]; exact hz), ?_⟩
  refine dn.nx σ _ _ _ ρ ((e12.trans e3).trans kF) (T4.write (c' := .dtt (putT m (tkey l) d)) hS ⟨by have := putT_len m (tkey l) d; omega, _, upd_same, hp2.putT (dv.mono ((e2.trans e3).trans kF))⟩) (en.mono ((e12.trans e3).trans kF)) q4
end
end A

/-! ## exceptions: classes with an __init__ of their own over any built-in one -/
namespace A
open PySem PySem.Spec L2 PyProof.Rows
local macro_rules | `(tactic| walk_at "A.go") => `(tactic| simp only [aSeq, aNext, aSet, aVar, atV_s, onB_b, onI_i, onII_i, onL1_i, onL2_i, it_l, it_t, it_s, it_x, ix_l, ix_t, ix_s, add_i, add_x, eq_i, eq_x, eq_b, is_b, aC, aNil, aCons, aOp, aUn, aTup, aLst, aCB, aNot, aAnd, aOr, aTst, aIfE, aAndV, aOrV, aNotV, aChn, aDrop, aRet, aRetN, aIf, agName, agNil, agCons, agTup, aAsg, aPar, aAug, aFor, aRng1, aRng2, aIter, aLc, aYes,
  aCl, aMt, aMk, aFl, aFst, aNeg, aI2, aI20, aLe, aLt, aGt, aGe, aSub, aMod, aMul, aFdv, aPow, aXor, aShl, aShr, agSub, aoN, aoS, aSl, aRev, aLen, aList, aTupOf, aLRg1, aLRg2, aAbs, aI2N, aMax, aMin, aDm, aAll, aAny, aBM, aApp, aPopAt, aPop, aClear, aRevM, aExt, aRepr, aClD, aLnSt, aIAdd, aBreak, aCont,
  aEnd, startA, List.map_cons, List.map_nil, List.cons_append, List.nil_append, List.length_cons, List.length_nil, List.replicate, List.getElem?_cons_zero, List.getElem?_cons_succ, List.set_cons_zero, List.set_cons_succ, Nat.reduceAdd, Nat.reduceSub, Nat.succ_eq_add_one, Int.reduceAdd, Int.reduceMul,
  reduceIte, Bool.false_eq_true, Bool.not_true, Bool.not_false, ite_true, ite_false])
local macro_rules | `(tactic| walk_at "A.hop") => `(tactic| try simp only [aMtF, aFmt, aJs, aEqO, aNeO, aReprF, aRevT, aIsiT, aInt, aStrI, aEnum, aZip, aMulL, aCount, aAugS, aSetOf, aSrtSet, aSum, aDNew, aDIn, aDIx, aDPut, aLenD, aListD, aBits, aDsp1, aBool, aSorted, wipeA, aSeq, aNext, aSet, aVar, atV_s, onB_b, onI_i, onII_i, onL1_i, onL2_i, it_l, it_t, it_s, it_x, ix_l, ix_t, ix_s, add_i, add_x, eq_i, eq_x, eq_b, is_b, aC, aNil, aCons, aOp, aUn, aTup, aLst, aCB, aNot, aAnd, aOr, aTst, aIfE, aAndV, aOrV, aNotV, aChn, aDrop, aRet, aRetN, aIf, agName, agNil, agCons, agTup, aAsg, aPar, aAug, aFor, aRng1, aRng2, aIter, aLc, aYes,
  aCl, aMt, aMk, aFl, aFst, aNeg, aI2, aI20, aLe, aLt, aGt, aGe, aSub, aMod, aMul, aFdv, aPow, aXor, aShl, aShr, agSub, aoN, aoS, aSl, aRev, aLen, aList, aTupOf, aLRg1, aLRg2, aAbs, aI2N, aMax, aMin, aDm, aAll, aAny, aBM, aApp, aPopAt, aPop, aClear, aRevM, aExt, aRepr, aClD, aLnSt, aIAdd, aBreak, aCont,
  aEnd, startA, List.map_cons, List.map_nil, List.cons_append, List.nil_append, List.length_cons, List.length_nil, List.replicate, List.getElem?_cons_zero, List.getElem?_cons_succ, List.set_cons_zero, List.set_cons_succ, Nat.reduceAdd, Nat.reduceSub, Nat.succ_eq_add_one, Int.reduceAdd, Int.reduceMul,
  reduceIte, Bool.false_eq_true, Bool.not_true, Bool.not_false, ite_true, ite_false])
local macro_rules | `(tactic| walk_at "A.lop") => `(tactic| try simp only [decide_true, decide_false, aMtF, aFmt, aJs, aEqO, aNeO, aReprF, aRevT, aIsiT, aInt, aStrI, aEnum, aZip, aMulL, aCount, aAugS, aSetOf, aSrtSet, aSum, aDNew, aDIn, aDIx, aDPut, aLenD, aListD, aBits, aDsp1, aBool, aSorted, wipeA, aSeq, aNext, aSet, aVar, atV_s, onB_b, onI_i, onII_i, onL1_i, onL2_i, it_l, it_t, it_s, it_x, ix_l, ix_t, ix_s, add_i, add_x, eq_i, eq_x, eq_b, is_b, aC, aNil, aCons, aOp, aUn, aTup, aLst, aCB, aNot, aAnd, aOr, aTst, aIfE, aAndV, aOrV, aNotV, aChn, aDrop, aRet, aRetN, aIf, agName, agNil, agCons, agTup, aAsg, aPar, aAug, aFor, aRng1, aRng2, aIter, aLc, aYes,
  aCl, aMt, aMk, aFl, aFst, aNeg, aI2, aI20, aLe, aLt, aGt, aGe, aSub, aMod, aMul, aFdv, aPow, aXor, aShl, aShr, agSub, aoN, aoS, aSl, aRev, aLen, aList, aTupOf, aLRg1, aLRg2, aAbs, aI2N, aMax, aMin, aDm, aBM, aApp, aPopAt, aPop, aClear, aRevM, aExt, aClD, aLnSt, aIAdd, aBreak, aCont,
  aEnd, startA, List.map_cons, List.map_nil, List.cons_append, List.nil_append, List.length_cons, List.length_nil, List.replicate, List.getElem?_cons_zero, List.getElem?_cons_succ, List.set_cons_zero, List.set_cons_succ, Nat.reduceAdd, Nat.reduceSub, Nat.succ_eq_add_one, Int.reduceAdd, Int.reduceMul,
  reduceIte, Bool.false_eq_true, Bool.not_true, Bool.not_false, ite_true, ite_false])
/-- a class of exceptions, over a built-in one whose mro is bmB -/
structure OexG (K : PySem.W.Frag) (C : Addr) (bmB : List Value) (newId : String) : Prop where
  made : PySem.W.excInitIn K C bmB newId = true
  over : PySem.W.excOver K C bmB = true
  dct : PySem.W.hasDictIn K C = true
  sa : PySem.W.findIn K (.ref C) "__setattr__" = some (some (.builtin "object.__setattr__"))
  exC : PySem.W.subIn K (.ref C) (.type "BaseException") = some true
  tyC : PySem.W.typeIn K (.ref C) = some (.type "type")
  kC : PySem.W.keepIn K (.ref C) = true
section
variable {X : Cx} {pins : List (Addr × Obj)} {σ : St} {H : Hp} {s : Shared} {a C dx : Addr} {f : Str} {y : V} {u : Value} {fs : List (Str × V)} {Q : Unit → Shared → Prop} {E : Value → Shared → Prop} {Ar : Around} {B newId initId : String} {bmB : List Value}
/-- what is tracked: the exception and its dict have changed -/
def Chg (H H' : Hp) (a C dx : Addr) (fs : List (Str × V)) : Prop := H' a = some (exo a C (some dx)) ∧ H' dx = some (exd dx fs) ∧ dx ≠ a ∧ ∀ b, b ≠ a → b ≠ dx → H' b = H b
end
end A

/-! ## raise -/
namespace A
open PySem PySem.Spec L2 PyProof.Rows ClX
local macro_rules | `(tactic| walk_at "A.go") => `(tactic| simp only [aSeq, aNext, aSet, aVar, atV_s, onB_b, onI_i, onII_i, onL1_i, onL2_i, it_l, it_t, it_s, it_x, ix_l, ix_t, ix_s, add_i, add_x, eq_i, eq_x, eq_b, is_b, aC, aNil, aCons, aOp, aUn, aTup, aLst, aCB, aNot, aAnd, aOr, aTst, aIfE, aAndV, aOrV, aNotV, aChn, aDrop, aRet, aRetN, aIf, agName, agNil, agCons, agTup, aAsg, aPar, aAug, aFor, aRng1, aRng2, aIter, aLc, aYes,
  aCl, aMt, aMk, aFl, aFst, aNeg, aI2, aI20, aLe, aLt, aGt, aGe, aSub, aMod, aMul, aFdv, aPow, aXor, aShl, aShr, agSub, aoN, aoS, aSl, aRev, aLen, aList, aTupOf, aLRg1, aLRg2, aAbs, aI2N, aMax, aMin, aDm, aAll, aAny, aBM, aApp, aPopAt, aPop, aClear, aRevM, aExt, aRepr, aClD, aLnSt, aIAdd, aBreak, aCont,
  aEnd, startA, List.map_cons, List.map_nil, List.cons_append, List.nil_append, List.length_cons, List.length_nil, List.replicate, List.getElem?_cons_zero, List.getElem?_cons_succ, List.set_cons_zero, List.set_cons_succ, Nat.reduceAdd, Nat.reduceSub, Nat.succ_eq_add_one, Int.reduceAdd, Int.reduceMul,
  reduceIte, Bool.false_eq_true, Bool.not_true, Bool.not_false, ite_true, ite_false])
local macro_rules | `(tactic| walk_at "A.hop") => `(tactic| try simp only [aMtF, aFmt, aJs, aEqO, aNeO, aReprF, aRevT, aIsiT, aInt, aStrI, aEnum, aZip, aMulL, aCount, aAugS, aSetOf, aSrtSet, aSum, aDNew, aDIn, aDIx, aDPut, aLenD, aListD, aBits, aDsp1, aBool, aSorted, wipeA, aSeq, aNext, aSet, aVar, atV_s, onB_b, onI_i, onII_i, onL1_i, onL2_i, it_l, it_t, it_s, it_x, ix_l, ix_t, ix_s, add_i, add_x, eq_i, eq_x, eq_b, is_b, aC, aNil, aCons, aOp, aUn, aTup, aLst, aCB, aNot, aAnd, aOr, aTst, aIfE, aAndV, aOrV, aNotV, aChn, aDrop, aRet, aRetN, aIf, agName, agNil, agCons, agTup, aAsg, aPar, aAug, aFor, aRng1, aRng2, aIter, aLc, aYes,
  aCl, aMt, aMk, aFl, aFst, aNeg, aI2, aI20, aLe, aLt, aGt, aGe, aSub, aMod, aMul, aFdv, aPow, aXor, aShl, aShr, agSub, aoN, aoS, aSl, aRev, aLen, aList, aTupOf, aLRg1, aLRg2, aAbs, aI2N, aMax, aMin, aDm, aAll, aAny, aBM, aApp, aPopAt, aPop, aClear, aRevM, aExt, aRepr, aClD, aLnSt, aIAdd, aBreak, aCont,
  aEnd, startA, List.map_cons, List.map_nil, List.cons_append, List.nil_append, List.length_cons, List.length_nil, List.replicate, List.getElem?_cons_zero, List.getElem?_cons_succ, List.set_cons_zero, List.set_cons_succ, Nat.reduceAdd, Nat.reduceSub, Nat.succ_eq_add_one, Int.reduceAdd, Int.reduceMul,
  reduceIte, Bool.false_eq_true, Bool.not_true, Bool.not_false, ite_true, ite_false])
local macro_rules | `(tactic| walk_at "A.lop") => `(tactic| try simp only [decide_true, decide_false, aMtF, aFmt, aJs, aEqO, aNeO, aReprF, aRevT, aIsiT, aInt, aStrI, aEnum, aZip, aMulL, aCount, aAugS, aSetOf, aSrtSet, aSum, aDNew, aDIn, aDIx, aDPut, aLenD, aListD, aBits, aDsp1, aBool, aSorted, wipeA, aSeq, aNext, aSet, aVar, atV_s, onB_b, onI_i, onII_i, onL1_i, onL2_i, it_l, it_t, it_s, it_x, ix_l, ix_t, ix_s, add_i, add_x, eq_i, eq_x, eq_b, is_b, aC, aNil, aCons, aOp, aUn, aTup, aLst, aCB, aNot, aAnd, aOr, aTst, aIfE, aAndV, aOrV, aNotV, aChn, aDrop, aRet, aRetN, aIf, agName, agNil, agCons, agTup, aAsg, aPar, aAug, aFor, aRng1, aRng2, aIter, aLc, aYes,
  aCl, aMt, aMk, aFl, aFst, aNeg, aI2, aI20, aLe, aLt, aGt, aGe, aSub, aMod, aMul, aFdv, aPow, aXor, aShl, aShr, agSub, aoN, aoS, aSl, aRev, aLen, aList, aTupOf, aLRg1, aLRg2, aAbs, aI2N, aMax, aMin, aDm, aBM, aApp, aPopAt, aPop, aClear, aRevM, aExt, aClD, aLnSt, aIAdd, aBreak, aCont,
  aEnd, startA, List.map_cons, List.map_nil, List.cons_append, List.nil_append, List.length_cons, List.length_nil, List.replicate, List.getElem?_cons_zero, List.getElem?_cons_succ, List.set_cons_zero, List.set_cons_succ, Nat.reduceAdd, Nat.reduceSub, Nat.succ_eq_add_one, Int.reduceAdd, Int.reduceMul,
  reduceIte, Bool.false_eq_true, Bool.not_true, Bool.not_false, ite_true, ite_false])
section
variable {X : Cx} {W : WX} {B newId initId : String} {bmB : List Value} {o e : Expr} {es : List Expr} {to te : TE} {ta : TA} {f x : Str} {p p' p1 p2 pos : Pos}
/-- what the __init__ of such a class keeps: its fields, the last one first -/
def spExi (C : Addr) (fn : List Str) : Sp := fun vs H Q _ => ∃ (a : Addr) (ys : List V), vs = .ref a :: ys ∧ ys.length = fn.length ∧ H a = some (exo a C none) ∧ ∀ dx H', H dx = none → Chg H H' a C dx (fn.zip ys).reverse → Q .non H'
/-! ### the readings over data -/
/-- a class of the module whose instances are so made -/
structure RzF (P : Program) (w : World) (K : PySem.W.Frag) (mg : Str → Option Value) (base : Heap) (x : Str) (C : Addr) (k : Nat) (fn : List Str) : Prop where
  ex : ∃ (B newId initId : String) (bmB : List Value) (fI : Addr) (fd : FuncData) (ps : List Str), mg x = some (.ref C) ∧ PySem.ExcBaseFacts B newId initId bmB ∧ OexG K C bmB newId ∧ PySem.W.findIn K (.ref C) "__init__" = some (some (.ref fI)) ∧ PySem.W.typeIn K (.ref fI) = some (.type "function") ∧
    Binds K fd ps [] ∧ FnG P w K mg base k fI fd ps (spExi C fn)
end
end A

/-! ## try .. except -/
namespace A
open PySem PySem.Spec L2 PyProof.Rows
local macro_rules | `(tactic| walk_at "A.go") => `(tactic| simp only [aSeq, aNext, aSet, aVar, atV_s, onB_b, onI_i, onII_i, onL1_i, onL2_i, it_l, it_t, it_s, it_x, ix_l, ix_t, ix_s, add_i, add_x, eq_i, eq_x, eq_b, is_b, aC, aNil, aCons, aOp, aUn, aTup, aLst, aCB, aNot, aAnd, aOr, aTst, aIfE, aAndV, aOrV, aNotV, aChn, aDrop, aRet, aRetN, aIf, agName, agNil, agCons, agTup, aAsg, aPar, aAug, aFor, aRng1, aRng2, aIter, aLc, aYes,
  aCl, aMt, aMk, aFl, aFst, aNeg, aI2, aI20, aLe, aLt, aGt, aGe, aSub, aMod, aMul, aFdv, aPow, aXor, aShl, aShr, agSub, aoN, aoS, aSl, aRev, aLen, aList, aTupOf, aLRg1, aLRg2, aAbs, aI2N, aMax, aMin, aDm, aAll, aAny, aBM, aApp, aPopAt, aPop, aClear, aRevM, aExt, aRepr, aClD, aLnSt, aIAdd, aBreak, aCont,
  aEnd, startA, List.map_cons, List.map_nil, List.cons_append, List.nil_append, List.length_cons, List.length_nil, List.replicate, List.getElem?_cons_zero, List.getElem?_cons_succ, List.set_cons_zero, List.set_cons_succ, Nat.reduceAdd, Nat.reduceSub, Nat.succ_eq_add_one, Int.reduceAdd, Int.reduceMul,
  reduceIte, Bool.false_eq_true, Bool.not_true, Bool.not_false, ite_true, ite_false])
local macro_rules | `(tactic| walk_at "A.hop") => `(tactic| try simp only [aMtF, aFmt, aJs, aEqO, aNeO, aReprF, aRevT, aIsiT, aInt, aStrI, aEnum, aZip, aMulL, aCount, aAugS, aSetOf, aSrtSet, aSum, aDNew, aDIn, aDIx, aDPut, aLenD, aListD, aBits, aDsp1, aBool, aSorted, wipeA, aSeq, aNext, aSet, aVar, atV_s, onB_b, onI_i, onII_i, onL1_i, onL2_i, it_l, it_t, it_s, it_x, ix_l, ix_t, ix_s, add_i, add_x, eq_i, eq_x, eq_b, is_b, aC, aNil, aCons, aOp, aUn, aTup, aLst, aCB, aNot, aAnd, aOr, aTst, aIfE, aAndV, aOrV, aNotV, aChn, aDrop, aRet, aRetN, aIf, agName, agNil, agCons, agTup, aAsg, aPar, aAug, aFor, aRng1, aRng2, aIter, aLc, aYes,
  aCl, aMt, aMk, aFl, aFst, aNeg, aI2, aI20, aLe, aLt, aGt, aGe, aSub, aMod, aMul, aFdv, aPow, aXor, aShl, aShr, agSub, aoN, aoS, aSl, aRev, aLen, aList, aTupOf, aLRg1, aLRg2, aAbs, aI2N, aMax, aMin, aDm, aAll, aAny, aBM, aApp, aPopAt, aPop, aClear, aRevM, aExt, aRepr, aClD, aLnSt, aIAdd, aBreak, aCont,
  aEnd, startA, List.map_cons, List.map_nil, List.cons_append, List.nil_append, List.length_cons, List.length_nil, List.replicate, List.getElem?_cons_zero, List.getElem?_cons_succ, List.set_cons_zero, List.set_cons_succ, Nat.reduceAdd, Nat.reduceSub, Nat.succ_eq_add_one, Int.reduceAdd, Int.reduceMul,
  reduceIte, Bool.false_eq_true, Bool.not_true, Bool.not_false, ite_true, ite_false])
local macro_rules | `(tactic| walk_at "A.lop") => `(tactic| try simp only [decide_true, decide_false, aMtF, aFmt, aJs, aEqO, aNeO, aReprF, aRevT, aIsiT, aInt, aStrI, aEnum, aZip, aMulL, aCount, aAugS, aSetOf, aSrtSet, aSum, aDNew, aDIn, aDIx, aDPut, aLenD, aListD, aBits, aDsp1, aBool, aSorted, wipeA, aSeq, aNext, aSet, aVar, atV_s, onB_b, onI_i, onII_i, onL1_i, onL2_i, it_l, it_t, it_s, it_x, ix_l, ix_t, ix_s, add_i, add_x, eq_i, eq_x, eq_b, is_b, aC, aNil, aCons, aOp, aUn, aTup, aLst, aCB, aNot, aAnd, aOr, aTst, aIfE, aAndV, aOrV, aNotV, aChn, aDrop, aRet, aRetN, aIf, agName, agNil, agCons, agTup, aAsg, aPar, aAug, aFor, aRng1, aRng2, aIter, aLc, aYes,
  aCl, aMt, aMk, aFl, aFst, aNeg, aI2, aI20, aLe, aLt, aGt, aGe, aSub, aMod, aMul, aFdv, aPow, aXor, aShl, aShr, agSub, aoN, aoS, aSl, aRev, aLen, aList, aTupOf, aLRg1, aLRg2, aAbs, aI2N, aMax, aMin, aDm, aBM, aApp, aPopAt, aPop, aClear, aRevM, aExt, aClD, aLnSt, aIAdd, aBreak, aCont,
  aEnd, startA, List.map_cons, List.map_nil, List.cons_append, List.nil_append, List.length_cons, List.length_nil, List.replicate, List.getElem?_cons_zero, List.getElem?_cons_succ, List.set_cons_zero, List.set_cons_succ, Nat.reduceAdd, Nat.reduceSub, Nat.succ_eq_add_one, Int.reduceAdd, Int.reduceMul,
  reduceIte, Bool.false_eq_true, Bool.not_true, Bool.not_false, ite_true, ite_false])
/-- an exception, caught, as data -/
def exD (a : Addr) (dd : Option Addr) (x : Xn) : D := .exc a dd (x.fs.map (·.1)) (x.fs.map (·.2))
theorem dvP_split {K : KW} {F : Hp} : ∀ {gs : List (Str × V)} {fs : List (Str × D)}, DvP K F gs fs → gs.map (·.1) = fs.map (·.1) ∧ DvL K F (gs.map (·.2)) (fs.map (·.2))
  | _, _, .nil => ⟨rfl, .nil⟩
  | _, _, .cons h t => ⟨congr (congrArg _ h.1) (dvP_split t).1, .cons h.2 (dvP_split t).2⟩
/-- its dict stands from now on -/
theorem caught {K : KW} {F H : Hp} {S R : Sto} {cls : Value} {dd : Option Addr} {x : Xn} (T : Sta K F S R H) (h : XR K F H cls dd x) (a : Addr) : ∃ F', Same F F' ∧ Sta K F' S R H ∧ Dv K F' (.ref a) (exD a dd x) := by
  obtain ⟨_, h⟩ := h
  rcases h with ⟨ed, e⟩ | ⟨dx, gs, ed, hd, hp⟩
  · refine ⟨F, Same.refl _, T, ?_⟩
    unfold exD
    rw [e, ed]
    exact .exc0
  · subst ed
    obtain ⟨h1, h2⟩ := dvP_split hp
    have kind : ∀ {c : Cell}, CellOk K F H dx c → False := fun {c} hc => by
      cases c with
      | lst ds => obtain ⟨_, xs, z, _⟩ := hc; rw [hd] at z; cases z
      | dct m => obtain ⟨_, l, z, _⟩ := hc; rw [hd] at z; cases z
      | ins C fs => obtain ⟨_, _, z, _⟩ := hc; rw [hd] at z; cases z
      | pot => obtain ⟨_, _, z, _⟩ := hc; rw [hd] at z; cases z
      | dtt m => obtain ⟨_, l, z, _⟩ := hc; rw [hd] at z; cases z
    have sm : Same F (upd F dx (.xd gs)) := fun b u e => by
      by_cases q : b = dx
      · subst q
        rw [upd_same]
        have := T.le _ _ e
        rw [hd] at this
        exact this
      · rw [upd_ne q]
        exact e
    refine ⟨upd F dx (.xd gs), sm, ⟨fun b u e => ?_, fun b c e => ?_, fun b c e => ?_⟩, .exc upd_same h1 (h2.mono sm)⟩
    · by_cases q : b = dx
      · subst q
        rw [upd_same] at e
        cases e
        exact hd
      · rw [upd_ne q] at e
        exact T.le b u e
    · obtain ⟨z1, z2⟩ := T.own b c e
      have q : b ≠ dx := by rintro rfl; exact kind z2
      exact ⟨by rw [upd_ne q]; exact z1, z2.mono sm fun u z => z⟩
    · obtain ⟨z1, z3, z2⟩ := T.hid b c e
      have q : b ≠ dx := by rintro rfl; exact kind z2
      exact ⟨by rw [upd_ne q]; exact z1, z3, z2.mono sm fun u z => z⟩
section
variable {X : Cx} {Wout : WX} {x n : Str} {c : Value} {i : Nat} {body suite : List Stmt} {b₀ : Stmt} {np pos pos' : Pos} {tb : WX → TS} {ab : AS}
end
end A

/-! ## a caught exception: isinstance, its fields -/
namespace A
open PySem PySem.Spec L2 PyProof.Rows
local macro_rules | `(tactic| walk_at "A.go") => `(tactic| simp only [aSeq, aNext, aSet, aVar, atV_s, onB_b, onI_i, onII_i, onL1_i, onL2_i, it_l, it_t, it_s, it_x, ix_l, ix_t, ix_s, add_i, add_x, eq_i, eq_x, eq_b, is_b, aC, aNil, aCons, aOp, aUn, aTup, aLst, aCB, aNot, aAnd, aOr, aTst, aIfE, aAndV, aOrV, aNotV, aChn, aDrop, aRet, aRetN, aIf, agName, agNil, agCons, agTup, aAsg, aPar, aAug, aFor, aRng1, aRng2, aIter, aLc, aYes,
  aCl, aMt, aMk, aFl, aFst, aNeg, aI2, aI20, aLe, aLt, aGt, aGe, aSub, aMod, aMul, aFdv, aPow, aXor, aShl, aShr, agSub, aoN, aoS, aSl, aRev, aLen, aList, aTupOf, aLRg1, aLRg2, aAbs, aI2N, aMax, aMin, aDm, aAll, aAny, aBM, aApp, aPopAt, aPop, aClear, aRevM, aExt, aRepr, aClD, aLnSt, aIAdd, aBreak, aCont,
  aEnd, startA, List.map_cons, List.map_nil, List.cons_append, List.nil_append, List.length_cons, List.length_nil, List.replicate, List.getElem?_cons_zero, List.getElem?_cons_succ, List.set_cons_zero, List.set_cons_succ, Nat.reduceAdd, Nat.reduceSub, Nat.succ_eq_add_one, Int.reduceAdd, Int.reduceMul,
  reduceIte, Bool.false_eq_true, Bool.not_true, Bool.not_false, ite_true, ite_false])
local macro_rules | `(tactic| walk_at "A.hop") => `(tactic| try simp only [aMtF, aFmt, aJs, aEqO, aNeO, aReprF, aRevT, aIsiT, aInt, aStrI, aEnum, aZip, aMulL, aCount, aAugS, aSetOf, aSrtSet, aSum, aDNew, aDIn, aDIx, aDPut, aLenD, aListD, aBits, aDsp1, aBool, aSorted, wipeA, aSeq, aNext, aSet, aVar, atV_s, onB_b, onI_i, onII_i, onL1_i, onL2_i, it_l, it_t, it_s, it_x, ix_l, ix_t, ix_s, add_i, add_x, eq_i, eq_x, eq_b, is_b, aC, aNil, aCons, aOp, aUn, aTup, aLst, aCB, aNot, aAnd, aOr, aTst, aIfE, aAndV, aOrV, aNotV, aChn, aDrop, aRet, aRetN, aIf, agName, agNil, agCons, agTup, aAsg, aPar, aAug, aFor, aRng1, aRng2, aIter, aLc, aYes,
  aCl, aMt, aMk, aFl, aFst, aNeg, aI2, aI20, aLe, aLt, aGt, aGe, aSub, aMod, aMul, aFdv, aPow, aXor, aShl, aShr, agSub, aoN, aoS, aSl, aRev, aLen, aList, aTupOf, aLRg1, aLRg2, aAbs, aI2N, aMax, aMin, aDm, aAll, aAny, aBM, aApp, aPopAt, aPop, aClear, aRevM, aExt, aRepr, aClD, aLnSt, aIAdd, aBreak, aCont,
  aEnd, startA, List.map_cons, List.map_nil, List.cons_append, List.nil_append, List.length_cons, List.length_nil, List.replicate, List.getElem?_cons_zero, List.getElem?_cons_succ, List.set_cons_zero, List.set_cons_succ, Nat.reduceAdd, Nat.reduceSub, Nat.succ_eq_add_one, Int.reduceAdd, Int.reduceMul,
  reduceIte, Bool.false_eq_true, Bool.not_true, Bool.not_false, ite_true, ite_false])
local macro_rules | `(tactic| walk_at "A.lop") => `(tactic| try simp only [decide_true, decide_false, aMtF, aFmt, aJs, aEqO, aNeO, aReprF, aRevT, aIsiT, aInt, aStrI, aEnum, aZip, aMulL, aCount, aAugS, aSetOf, aSrtSet, aSum, aDNew, aDIn, aDIx, aDPut, aLenD, aListD, aBits, aDsp1, aBool, aSorted, wipeA, aSeq, aNext, aSet, aVar, atV_s, onB_b, onI_i, onII_i, onL1_i, onL2_i, it_l, it_t, it_s, it_x, ix_l, ix_t, ix_s, add_i, add_x, eq_i, eq_x, eq_b, is_b, aC, aNil, aCons, aOp, aUn, aTup, aLst, aCB, aNot, aAnd, aOr, aTst, aIfE, aAndV, aOrV, aNotV, aChn, aDrop, aRet, aRetN, aIf, agName, agNil, agCons, agTup, aAsg, aPar, aAug, aFor, aRng1, aRng2, aIter, aLc, aYes,
  aCl, aMt, aMk, aFl, aFst, aNeg, aI2, aI20, aLe, aLt, aGt, aGe, aSub, aMod, aMul, aFdv, aPow, aXor, aShl, aShr, agSub, aoN, aoS, aSl, aRev, aLen, aList, aTupOf, aLRg1, aLRg2, aAbs, aI2N, aMax, aMin, aDm, aBM, aApp, aPopAt, aPop, aClear, aRevM, aExt, aClD, aLnSt, aIAdd, aBreak, aCont,
  aEnd, startA, List.map_cons, List.map_nil, List.cons_append, List.nil_append, List.length_cons, List.length_nil, List.replicate, List.getElem?_cons_zero, List.getElem?_cons_succ, List.set_cons_zero, List.set_cons_succ, Nat.reduceAdd, Nat.reduceSub, Nat.succ_eq_add_one, Int.reduceAdd, Int.reduceMul,
  reduceIte, Bool.false_eq_true, Bool.not_true, Bool.not_false, ite_true, ite_false])
/-- what isinstance asks of an exception's class, and a field's reading -/
structure ExcG (K : PySem.W.Frag) (C : Addr) : Prop where
  cl : (PySem.W.clsIn K C).isSome = true
  ga : PySem.W.findIn K (.ref C) "__getattribute__" = some (some (.builtin "BaseException.__getattribute__"))
  gg : PySem.W.findIn K (.ref C) "__getattr__" = some none
  exC : PySem.W.subIn K (.ref C) (.type "BaseException") = some true
  hdC : PySem.W.hasDictIn K C = true
  ca : PySem.W.findIn K (.ref C) "__class__" = some (some (.builtin "object.__class__"))
  cn : PySem.W.specialIn K (.builtin "object.__class__") "__get__" = some (some (.builtin "getset_descriptor.__get__"))
  ct : PySem.W.takesIn K (.builtin "object.__class__") = some true
  cm : PySem.W.mroIn K C (.type "object") = some true
section
variable {X : Cx} {a C : Addr} {oe : Obj} {d : Option Addr} {pn : List (Addr × Obj)}
/-! ### over data -/
end
end A

/-! ## what the head tells of exceptions' classes -/
namespace A
open PySem PySem.Spec L2 PyProof.Rows He
local macro_rules | `(tactic| walk_at "A.go") => `(tactic| simp only [aSeq, aNext, aSet, aVar, atV_s, onB_b, onI_i, onII_i, onL1_i, onL2_i, it_l, it_t, it_s, it_x, ix_l, ix_t, ix_s, add_i, add_x, eq_i, eq_x, eq_b, is_b, aC, aNil, aCons, aOp, aUn, aTup, aLst, aCB, aNot, aAnd, aOr, aTst, aIfE, aAndV, aOrV, aNotV, aChn, aDrop, aRet, aRetN, aIf, agName, agNil, agCons, agTup, aAsg, aPar, aAug, aFor, aRng1, aRng2, aIter, aLc, aYes,
  aCl, aMt, aMk, aFl, aFst, aNeg, aI2, aI20, aLe, aLt, aGt, aGe, aSub, aMod, aMul, aFdv, aPow, aXor, aShl, aShr, agSub, aoN, aoS, aSl, aRev, aLen, aList, aTupOf, aLRg1, aLRg2, aAbs, aI2N, aMax, aMin, aDm, aAll, aAny, aBM, aApp, aPopAt, aPop, aClear, aRevM, aExt, aRepr, aClD, aLnSt, aIAdd, aBreak, aCont,
  aEnd, startA, List.map_cons, List.map_nil, List.cons_append, List.nil_append, List.length_cons, List.length_nil, List.replicate, List.getElem?_cons_zero, List.getElem?_cons_succ, List.set_cons_zero, List.set_cons_succ, Nat.reduceAdd, Nat.reduceSub, Nat.succ_eq_add_one, Int.reduceAdd, Int.reduceMul,
  reduceIte, Bool.false_eq_true, Bool.not_true, Bool.not_false, ite_true, ite_false])
local macro_rules | `(tactic| walk_at "A.hop") => `(tactic| try simp only [aMtF, aFmt, aJs, aEqO, aNeO, aReprF, aRevT, aIsiT, aInt, aStrI, aEnum, aZip, aMulL, aCount, aAugS, aSetOf, aSrtSet, aSum, aDNew, aDIn, aDIx, aDPut, aLenD, aListD, aBits, aDsp1, aBool, aSorted, wipeA, aSeq, aNext, aSet, aVar, atV_s, onB_b, onI_i, onII_i, onL1_i, onL2_i, it_l, it_t, it_s, it_x, ix_l, ix_t, ix_s, add_i, add_x, eq_i, eq_x, eq_b, is_b, aC, aNil, aCons, aOp, aUn, aTup, aLst, aCB, aNot, aAnd, aOr, aTst, aIfE, aAndV, aOrV, aNotV, aChn, aDrop, aRet, aRetN, aIf, agName, agNil, agCons, agTup, aAsg, aPar, aAug, aFor, aRng1, aRng2, aIter, aLc, aYes,
  aCl, aMt, aMk, aFl, aFst, aNeg, aI2, aI20, aLe, aLt, aGt, aGe, aSub, aMod, aMul, aFdv, aPow, aXor, aShl, aShr, agSub, aoN, aoS, aSl, aRev, aLen, aList, aTupOf, aLRg1, aLRg2, aAbs, aI2N, aMax, aMin, aDm, aAll, aAny, aBM, aApp, aPopAt, aPop, aClear, aRevM, aExt, aRepr, aClD, aLnSt, aIAdd, aBreak, aCont,
  aEnd, startA, List.map_cons, List.map_nil, List.cons_append, List.nil_append, List.length_cons, List.length_nil, List.replicate, List.getElem?_cons_zero, List.getElem?_cons_succ, List.set_cons_zero, List.set_cons_succ, Nat.reduceAdd, Nat.reduceSub, Nat.succ_eq_add_one, Int.reduceAdd, Int.reduceMul,
  reduceIte, Bool.false_eq_true, Bool.not_true, Bool.not_false, ite_true, ite_false])
local macro_rules | `(tactic| walk_at "A.lop") => `(tactic| try simp only [decide_true, decide_false, aMtF, aFmt, aJs, aEqO, aNeO, aReprF, aRevT, aIsiT, aInt, aStrI, aEnum, aZip, aMulL, aCount, aAugS, aSetOf, aSrtSet, aSum, aDNew, aDIn, aDIx, aDPut, aLenD, aListD, aBits, aDsp1, aBool, aSorted, wipeA, aSeq, aNext, aSet, aVar, atV_s, onB_b, onI_i, onII_i, onL1_i, onL2_i, it_l, it_t, it_s, it_x, ix_l, ix_t, ix_s, add_i, add_x, eq_i, eq_x, eq_b, is_b, aC, aNil, aCons, aOp, aUn, aTup, aLst, aCB, aNot, aAnd, aOr, aTst, aIfE, aAndV, aOrV, aNotV, aChn, aDrop, aRet, aRetN, aIf, agName, agNil, agCons, agTup, aAsg, aPar, aAug, aFor, aRng1, aRng2, aIter, aLc, aYes,
  aCl, aMt, aMk, aFl, aFst, aNeg, aI2, aI20, aLe, aLt, aGt, aGe, aSub, aMod, aMul, aFdv, aPow, aXor, aShl, aShr, agSub, aoN, aoS, aSl, aRev, aLen, aList, aTupOf, aLRg1, aLRg2, aAbs, aI2N, aMax, aMin, aDm, aBM, aApp, aPopAt, aPop, aClear, aRevM, aExt, aClD, aLnSt, aIAdd, aBreak, aCont,
  aEnd, startA, List.map_cons, List.map_nil, List.cons_append, List.nil_append, List.length_cons, List.length_nil, List.replicate, List.getElem?_cons_zero, List.getElem?_cons_succ, List.set_cons_zero, List.set_cons_succ, Nat.reduceAdd, Nat.reduceSub, Nat.succ_eq_add_one, Int.reduceAdd, Int.reduceMul,
  reduceIte, Bool.false_eq_true, Bool.not_true, Bool.not_false, ite_true, ite_false])
section
variable {X : Cx} {W : WX} {k : Nat} {C : Addr}
end
end A

/-! ## tuple(range(n)) -/
namespace A
open PySem PySem.Spec L2 PyProof.Rows
local macro_rules | `(tactic| walk_at "A.go") => `(tactic| simp only [aSeq, aNext, aSet, aVar, atV_s, onB_b, onI_i, onII_i, onL1_i, onL2_i, it_l, it_t, it_s, it_x, ix_l, ix_t, ix_s, add_i, add_x, eq_i, eq_x, eq_b, is_b, aC, aNil, aCons, aOp, aUn, aTup, aLst, aCB, aNot, aAnd, aOr, aTst, aIfE, aAndV, aOrV, aNotV, aChn, aDrop, aRet, aRetN, aIf, agName, agNil, agCons, agTup, aAsg, aPar, aAug, aFor, aRng1, aRng2, aIter, aLc, aYes,
  aCl, aMt, aMk, aFl, aFst, aNeg, aI2, aI20, aLe, aLt, aGt, aGe, aSub, aMod, aMul, aFdv, aPow, aXor, aShl, aShr, agSub, aoN, aoS, aSl, aRev, aLen, aList, aTupOf, aLRg1, aLRg2, aAbs, aI2N, aMax, aMin, aDm, aAll, aAny, aBM, aApp, aPopAt, aPop, aClear, aRevM, aExt, aRepr, aClD, aLnSt, aIAdd, aBreak, aCont,
  aEnd, startA, List.map_cons, List.map_nil, List.cons_append, List.nil_append, List.length_cons, List.length_nil, List.replicate, List.getElem?_cons_zero, List.getElem?_cons_succ, List.set_cons_zero, List.set_cons_succ, Nat.reduceAdd, Nat.reduceSub, Nat.succ_eq_add_one, Int.reduceAdd, Int.reduceMul,
  reduceIte, Bool.false_eq_true, Bool.not_true, Bool.not_false, ite_true, ite_false])
local macro_rules | `(tactic| walk_at "A.hop") => `(tactic| try simp only [aMtF, aFmt, aJs, aEqO, aNeO, aReprF, aRevT, aIsiT, aInt, aStrI, aEnum, aZip, aMulL, aCount, aAugS, aSetOf, aSrtSet, aSum, aDNew, aDIn, aDIx, aDPut, aLenD, aListD, aBits, aDsp1, aBool, aSorted, wipeA, aSeq, aNext, aSet, aVar, atV_s, onB_b, onI_i, onII_i, onL1_i, onL2_i, it_l, it_t, it_s, it_x, ix_l, ix_t, ix_s, add_i, add_x, eq_i, eq_x, eq_b, is_b, aC, aNil, aCons, aOp, aUn, aTup, aLst, aCB, aNot, aAnd, aOr, aTst, aIfE, aAndV, aOrV, aNotV, aChn, aDrop, aRet, aRetN, aIf, agName, agNil, agCons, agTup, aAsg, aPar, aAug, aFor, aRng1, aRng2, aIter, aLc, aYes,
  aCl, aMt, aMk, aFl, aFst, aNeg, aI2, aI20, aLe, aLt, aGt, aGe, aSub, aMod, aMul, aFdv, aPow, aXor, aShl, aShr, agSub, aoN, aoS, aSl, aRev, aLen, aList, aTupOf, aLRg1, aLRg2, aAbs, aI2N, aMax, aMin, aDm, aAll, aAny, aBM, aApp, aPopAt, aPop, aClear, aRevM, aExt, aRepr, aClD, aLnSt, aIAdd, aBreak, aCont,
  aEnd, startA, List.map_cons, List.map_nil, List.cons_append, List.nil_append, List.length_cons, List.length_nil, List.replicate, List.getElem?_cons_zero, List.getElem?_cons_succ, List.set_cons_zero, List.set_cons_succ, Nat.reduceAdd, Nat.reduceSub, Nat.succ_eq_add_one, Int.reduceAdd, Int.reduceMul,
  reduceIte, Bool.false_eq_true, Bool.not_true, Bool.not_false, ite_true, ite_false])
local macro_rules | `(tactic| walk_at "A.lop") => `(tactic| try simp only [decide_true, decide_false, aMtF, aFmt, aJs, aEqO, aNeO, aReprF, aRevT, aIsiT, aInt, aStrI, aEnum, aZip, aMulL, aCount, aAugS, aSetOf, aSrtSet, aSum, aDNew, aDIn, aDIx, aDPut, aLenD, aListD, aBits, aDsp1, aBool, aSorted, wipeA, aSeq, aNext, aSet, aVar, atV_s, onB_b, onI_i, onII_i, onL1_i, onL2_i, it_l, it_t, it_s, it_x, ix_l, ix_t, ix_s, add_i, add_x, eq_i, eq_x, eq_b, is_b, aC, aNil, aCons, aOp, aUn, aTup, aLst, aCB, aNot, aAnd, aOr, aTst, aIfE, aAndV, aOrV, aNotV, aChn, aDrop, aRet, aRetN, aIf, agName, agNil, agCons, agTup, aAsg, aPar, aAug, aFor, aRng1, aRng2, aIter, aLc, aYes,
  aCl, aMt, aMk, aFl, aFst, aNeg, aI2, aI20, aLe, aLt, aGt, aGe, aSub, aMod, aMul, aFdv, aPow, aXor, aShl, aShr, agSub, aoN, aoS, aSl, aRev, aLen, aList, aTupOf, aLRg1, aLRg2, aAbs, aI2N, aMax, aMin, aDm, aBM, aApp, aPopAt, aPop, aClear, aRevM, aExt, aClD, aLnSt, aIAdd, aBreak, aCont,
  aEnd, startA, List.map_cons, List.map_nil, List.cons_append, List.nil_append, List.length_cons, List.length_nil, List.replicate, List.getElem?_cons_zero, List.getElem?_cons_succ, List.set_cons_zero, List.set_cons_succ, Nat.reduceAdd, Nat.reduceSub, Nat.succ_eq_add_one, Int.reduceAdd, Int.reduceMul,
  reduceIte, Bool.false_eq_true, Bool.not_true, Bool.not_false, ite_true, ite_false])
section
variable {X : Cx} {W : WX} {a : Expr} {ta : TE} {aa : AE} {p pos : Pos}
def aTRg1 (aa : AE) : AE := fun ρ S Q E => aa ρ S (fun d S1 => onI (fun n S2 => RgOk 0 n ∧ Q (.tup (rngD 0 n.toNat)) S2) d S1) E
theorem ea_tupRg1 {p1 p2 : Pos} (hc : X.calm = true) (hm : X.mg "tuple" = none) (hm2 : X.mg "range" = none) (ha : EA X W a ta aa) (hg : Gl X "tuple" := by rfl) (hg2 : Gl X "range" := by rfl)
    (na : starEach [a] X.env = (false, eval a X.env) :: starEach [] X.env := by rfl) (nb : starEach [.Call (.Name "range" p2) [a] [] p1] X.env = (false, eval (.Call (.Name "range" p2) [a] [] p1) X.env) :: starEach [] X.env := by rfl) :
    EA X W (.Call (.Name "tuple" p) [.Call (.Name "range" p2) [a] [] p1] [] pos) (tTupRg (tRg1 ta)) (aTRg1 aa) := by
  refine ⟨pe_tupRg hc hg hm (prg_1 hg2 hm2 ha.pe na) nb, fun σ H F S R ρ Q E P T en wo q po => ha.re σ H F S R ρ _ E _ T en wo q fun v H1 F1 S1 d e1 T1 dv q1 => ?_⟩
  cases dv with
  | int n =>
    have e : (n - 0).toNat = n.toNat := by congr 1; omega
    refine ⟨n, rfl, q1.1, newT_ok T1 (by have := dvl_rg (K := X.kw) (F := F1) (i := 0) (j := n); rw [e] at this; exact this) ?_ q1.2 (po.mono e1)⟩
    rw [rngD_length, sizeLine_eq]
    have := q1.1.2.2.2.2
    omega
  | _ => exact (show False from q1).elim
end
end A

namespace A
open PySem PySem.Spec L2 PyProof.Rows
local macro_rules | `(tactic| walk_at "A.go") => `(tactic| simp only [aSeq, aNext, aSet, aVar, atV_s, onB_b, onI_i, onII_i, onL1_i, onL2_i, it_l, it_t, it_s, it_x, ix_l, ix_t, ix_s, add_i, add_x, eq_i, eq_x, eq_b, is_b, aC, aNil, aCons, aOp, aUn, aTup, aLst, aCB, aNot, aAnd, aOr, aTst, aIfE, aAndV, aOrV, aNotV, aChn, aDrop, aRet, aRetN, aIf, agName, agNil, agCons, agTup, aAsg, aPar, aAug, aFor, aRng1, aRng2, aIter, aLc, aYes,
  aCl, aMt, aMk, aFl, aFst, aNeg, aI2, aI20, aLe, aLt, aGt, aGe, aSub, aMod, aMul, aFdv, aPow, aXor, aShl, aShr, agSub, aoN, aoS, aSl, aRev, aLen, aList, aTupOf, aLRg1, aLRg2, aAbs, aI2N, aMax, aMin, aDm, aAll, aAny, aBM, aApp, aPopAt, aPop, aClear, aRevM, aExt, aRepr, aClD, aLnSt, aIAdd, aBreak, aCont,
  aEnd, startA, List.map_cons, List.map_nil, List.cons_append, List.nil_append, List.length_cons, List.length_nil, List.replicate, List.getElem?_cons_zero, List.getElem?_cons_succ, List.set_cons_zero, List.set_cons_succ, Nat.reduceAdd, Nat.reduceSub, Nat.succ_eq_add_one, Int.reduceAdd, Int.reduceMul,
  reduceIte, Bool.false_eq_true, Bool.not_true, Bool.not_false, ite_true, ite_false])
local macro_rules | `(tactic| walk_at "A.hop") => `(tactic| try simp only [aMtF, aFmt, aJs, aEqO, aNeO, aReprF, aRevT, aIsiT, aInt, aStrI, aEnum, aZip, aMulL, aCount, aAugS, aSetOf, aSrtSet, aSum, aDNew, aDIn, aDIx, aDPut, aLenD, aListD, aBits, aDsp1, aBool, aSorted, wipeA, aSeq, aNext, aSet, aVar, atV_s, onB_b, onI_i, onII_i, onL1_i, onL2_i, it_l, it_t, it_s, it_x, ix_l, ix_t, ix_s, add_i, add_x, eq_i, eq_x, eq_b, is_b, aC, aNil, aCons, aOp, aUn, aTup, aLst, aCB, aNot, aAnd, aOr, aTst, aIfE, aAndV, aOrV, aNotV, aChn, aDrop, aRet, aRetN, aIf, agName, agNil, agCons, agTup, aAsg, aPar, aAug, aFor, aRng1, aRng2, aIter, aLc, aYes,
  aCl, aMt, aMk, aFl, aFst, aNeg, aI2, aI20, aLe, aLt, aGt, aGe, aSub, aMod, aMul, aFdv, aPow, aXor, aShl, aShr, agSub, aoN, aoS, aSl, aRev, aLen, aList, aTupOf, aLRg1, aLRg2, aAbs, aI2N, aMax, aMin, aDm, aAll, aAny, aBM, aApp, aPopAt, aPop, aClear, aRevM, aExt, aRepr, aClD, aLnSt, aIAdd, aBreak, aCont,
  aEnd, startA, List.map_cons, List.map_nil, List.cons_append, List.nil_append, List.length_cons, List.length_nil, List.replicate, List.getElem?_cons_zero, List.getElem?_cons_succ, List.set_cons_zero, List.set_cons_succ, Nat.reduceAdd, Nat.reduceSub, Nat.succ_eq_add_one, Int.reduceAdd, Int.reduceMul,
  reduceIte, Bool.false_eq_true, Bool.not_true, Bool.not_false, ite_true, ite_false])
local macro_rules | `(tactic| walk_at "A.lop") => `(tactic| try simp only [decide_true, decide_false, aMtF, aFmt, aJs, aEqO, aNeO, aReprF, aRevT, aIsiT, aInt, aStrI, aEnum, aZip, aMulL, aCount, aAugS, aSetOf, aSrtSet, aSum, aDNew, aDIn, aDIx, aDPut, aLenD, aListD, aBits, aDsp1, aBool, aSorted, wipeA, aSeq, aNext, aSet, aVar, atV_s, onB_b, onI_i, onII_i, onL1_i, onL2_i, it_l, it_t, it_s, it_x, ix_l, ix_t, ix_s, add_i, add_x, eq_i, eq_x, eq_b, is_b, aC, aNil, aCons, aOp, aUn, aTup, aLst, aCB, aNot, aAnd, aOr, aTst, aIfE, aAndV, aOrV, aNotV, aChn, aDrop, aRet, aRetN, aIf, agName, agNil, agCons, agTup, aAsg, aPar, aAug, aFor, aRng1, aRng2, aIter, aLc, aYes,
  aCl, aMt, aMk, aFl, aFst, aNeg, aI2, aI20, aLe, aLt, aGt, aGe, aSub, aMod, aMul, aFdv, aPow, aXor, aShl, aShr, agSub, aoN, aoS, aSl, aRev, aLen, aList, aTupOf, aLRg1, aLRg2, aAbs, aI2N, aMax, aMin, aDm, aBM, aApp, aPopAt, aPop, aClear, aRevM, aExt, aClD, aLnSt, aIAdd, aBreak, aCont,
  aEnd, startA, List.map_cons, List.map_nil, List.cons_append, List.nil_append, List.length_cons, List.length_nil, List.replicate, List.getElem?_cons_zero, List.getElem?_cons_succ, List.set_cons_zero, List.set_cons_succ, Nat.reduceAdd, Nat.reduceSub, Nat.succ_eq_add_one, Int.reduceAdd, Int.reduceMul,
  reduceIte, Bool.false_eq_true, Bool.not_true, Bool.not_false, ite_true, ite_false])
noncomputable def lfenceB (u : Yd) (hp : List Int) : Bool := fenceB u hp && hp.all fun x => decide (u.R (fun k => k ∉ hp ∨ k = x) = u.worth (rng u.len))
/-- no thing of it can be missed -/
noncomputable def boundB (u : Yd) (hp : List Int) : Bool := !decide (hp = []) && hp.all fun x => decide (u.worth (wo hp x) = u.worth hp)
/-- a dict of all worths -/
def TabOk (m : List (TKey × D)) (u : Yd) : Prop := ∀ l : List Int, l.Sublist (rng u.len) → valT m (tkey l) = some (.int (u.worth l))
def sp_is_least_fence (K : PySem.W.Frag) : SpA := fun ds S Q E => ∃ y u d hp, ds = [.own y, d] ∧ IsY K S y u ∧ asL S d = some (List.map D.int hp) ∧ Heap_ u.len hp ∧ Q (.bl (lfenceB u hp)) S
theorem len_is_least_fence (K : PySem.W.Frag) : ∀ ds S Q E, sp_is_least_fence K ds S Q E → ds.length = 2 := by
  rintro ds S Q E ⟨_, _, _, _, rfl, _⟩
  rfl
def sp_worths32 (K : PySem.W.Frag) : SpA := fun ds S Q E => ∃ u, ds = [specD u, .int (u.len : Nat)] ∧ u.Ok ∧ u.len ≤ 8 ∧ ∀ a m S', Sub S S' → S a = none → S' a = some (.dtt m) → TabOk m u → Q (.own a) S'
theorem len_worths32 (K : PySem.W.Frag) : ∀ ds S Q E, sp_worths32 K ds S Q E → ds.length = 2 := by
  rintro ds S Q E ⟨_, rfl, _⟩
  rfl
def sp_without32 (K : PySem.W.Frag) : SpA := fun ds S Q E => ∃ d hp i, ds = [d, .int i] ∧ asL S d = some (List.map D.int hp) ∧ Q (.tup ((wo hp i).map .int)) S
theorem len_without32 (K : PySem.W.Frag) : ∀ ds S Q E, sp_without32 K ds S Q E → ds.length = 2 := by
  rintro ds S Q E ⟨_, _, _, rfl, _⟩
  rfl
def sp_bound32 (K : PySem.W.Frag) : SpA := fun ds S Q E => ∃ a m u d hp, ds = [.own a, d] ∧ S a = some (.dtt m) ∧ TabOk m u ∧ asL S d = some (List.map D.int hp) ∧ hp.Sublist (rng u.len) ∧ Q (.bl (boundB u hp)) S
theorem len_bound32 (K : PySem.W.Frag) : ∀ ds S Q E, sp_bound32 K ds S Q E → ds.length = 2 := by
  rintro ds S Q E ⟨_, _, _, _, _, rfl, _⟩
  rfl
def sp_due32 (K : PySem.W.Frag) : SpA := fun ds S Q E => ∃ a m u d hp, ds = [.own a, .int (u.len : Nat), d] ∧ S a = some (.dtt m) ∧ TabOk m u ∧ u.Ok ∧ u.len ≤ 8 ∧ asL S d = some (List.map D.int hp) ∧ hp.Sublist (rng u.len) ∧ Q (.lst [.bl (ringB u hp), .bl (fenceB u hp), .bl (lfenceB u hp)]) S
theorem len_due32 (K : PySem.W.Frag) : ∀ ds S Q E, sp_due32 K ds S Q E → ds.length = 3 := by
  rintro ds S Q E ⟨_, _, _, _, _, rfl, _⟩
  rfl
def sp_law (K : PySem.W.Frag) : SpA := fun ds S Q E => ∃ ns, ds = [.scr ns] ∧ ns.length ≤ 63 ∧ Bits ns ∧ K4 K ∧ Q (.bl true) S
theorem len_law (K : PySem.W.Frag) : ∀ ds S Q E, sp_law K ds S Q E → ds.length = 1 := by
  rintro ds S Q E ⟨_, rfl, _⟩
  rfl

def a_is_least_fence (K : PySem.W.Frag) : AS := (aSeq (aIf (aNot (aTst (aCl (sp_is_fence K) (aCons (aVar 0) (aCons (aVar 1) aNil))))) (aRet (aC (.bl false))) aNext)
 (aSeq (aSet 2 (aCl (sp_out_of K) (aCons (aVar 0) (aCons (aVar 1) aNil))))
 (aRet (aCB aAll (aCons (aLc (aIter (aVar 1)) (agName 3) aYes (aOp (aEqD false) (aMtF (okY K) "worth_of" (fam_worth_of K) (aVar 0) (aCons (aCl (sp_joined K) (aCons (aVar 2) (aCons (aLst (aCons (aVar 3) aNil)) aNil))) aNil)) (aMt (okY K) "whole" (sp_Yard_whole K) (aVar 0) aNil)) [3]) aNil)))))
def a_worths32 (K : PySem.W.Frag) : AS := (aSeq (aSet 2 aDNewT)
 (aSeq (aFor (aIter (aCl (sp_heaps_of K) (aCons (aLRg1 (aVar 1)) aNil))) (agName 3) (aDPutT (aVar 2) (aVar 3) (aCl (sp_worth K) (aCons (aVar 0) (aCons (aVar 3) aNil)))))
 (aRet (aVar 2))))
def a_without32 (K : PySem.W.Frag) : AS := (aRet (aCB aTupOf (aCons (aLc (aIter (aVar 0)) (agName 2) (aTst (aOp (aEqD true) (aVar 2) (aVar 1))) (aVar 2) [2]) aNil)))
def a_bound32 (K : PySem.W.Frag) : AS := (aSeq (aIf (aTst (aOp (aEqD false) (aVar 1) (aLst aNil))) (aRet (aC (.bl false))) aNext)
 (aRet (aCB aAll (aCons (aLc (aIter (aVar 1)) (agName 2) aYes (aOp (aEqD false) (aDIxT (aVar 0) (aCl (sp_without32 K) (aCons (aVar 1) (aCons (aVar 2) aNil)))) (aDIxT (aVar 0) (aCB aTupOf (aCons (aVar 1) aNil)))) [2]) aNil))))
def a_due32 (K : PySem.W.Frag) : AS := (aSeq (aSet 3 (aLc (aIter (aCl (sp_heaps_of K) (aCons (aVar 2) aNil))) (agName 4) (aTst (aOp aLt (aCB aLen (aCons (aVar 4) aNil)) (aCB aLen (aCons (aVar 2) aNil)))) (aVar 4) [4]))
 (aSeq (aSet 5 (aAndV (aCl (sp_bound32 K) (aCons (aVar 0) (aCons (aVar 2) aNil))) (aNotV (aCB aAny (aCons (aLc (aIter (aVar 3)) (agName 4) aYes (aCl (sp_bound32 K) (aCons (aVar 0) (aCons (aVar 4) aNil))) [4]) aNil)))))
 (aSeq (aSet 6 (aLc (aRng1 (aCons (aVar 1) aNil)) (agName 7) (aTst (aOp (aIn true) (aVar 7) (aVar 2))) (aVar 7) [7]))
 (aSeq (aSet 8 (aDIxT (aVar 0) (aTRg1 (aVar 1))))
 (aSeq (aSet 9 (aOp aLt (aDIxT (aVar 0) (aCB aTupOf (aCons (aVar 6) aNil))) (aVar 8)))
 (aSeq (aSet 10 (aLc (aIter (aVar 2)) (agName 7) aYes (aDIxT (aVar 0) (aCB aTupOf (aCons (aCB aSorted (aCons (aOp aAdd (aVar 6) (aLst (aCons (aVar 7) aNil))) aNil)) aNil))) [7]))
 (aRet (aLst (aCons (aVar 5) (aCons (aVar 9) (aCons (aAndV (aVar 9) (aOp (aEqD false) (aVar 10) (aOp aMulL (aLst (aCons (aVar 8) aNil)) (aCB aLen (aCons (aVar 2) aNil))))) aNil)))))))))))
def a_law (K : PySem.W.Frag) : AS := (aSeq (aSet 1 (aCB aMax (aCons (aC (.int 1)) (aCons (aCB aMin (aCons (aCB aLen (aCons (aVar 0) aNil)) (aCons (aC (.int 3)) aNil))) aNil))))
 (aSeq (aFor (aRng1 (aCons (aVar 1) aNil)) (agName 2) (aSeq (aSet 3 (aCl (sp_pot K) (aCons (aVar 0) (aCons (aVar 2) aNil))))
 (aSeq (aSet 4 (aCl (sp_spec K) (aCons (aVar 3) (aCons (aOp aIx (aLst (aCons (aC (.int 5)) (aCons (aC (.int 8)) aNil))) (aCB aInt (aCons (aOp (aEqD false) (aVar 1) (aC (.int 1))) aNil))) aNil))))
 (aSeq (aSet 5 (aCB aLen (aCons (aOp aIx (aVar 4) (aC (.int 2))) aNil)))
 (aSeq (aPar 6 7 (aCons (aCl (sp_made K) (aCons (aVar 4) aNil)) (aCons (aCl (sp_worths32 K) (aCons (aVar 4) (aCons (aVar 5) aNil))) aNil)))
 (aFor (aIter (aCl (sp_heaps_of K) (aCons (aLRg1 (aVar 5)) aNil))) (agName 8) (aSeq (aSet 9 (aCl (sp_shuffled K) (aCons (aVar 3) (aCons (aVar 8) aNil))))
 (aSeq (aSet 10 (aCB aList (aCons (aVar 9) aNil)))
 (aSeq (aSet 11 (aLst (aCons (aCl (sp_is_ring K) (aCons (aVar 6) (aCons (aVar 9) aNil))) (aCons (aCl (sp_is_fence K) (aCons (aVar 6) (aCons (aVar 9) aNil))) (aCons (aCl (sp_is_least_fence K) (aCons (aVar 6) (aCons (aVar 9) aNil))) aNil)))))
 (aIf (aOr (aTst (aOp (aEqD true) (aCB aRepr (aCons (aVar 11) aNil)) (aCB aRepr (aCons (aCl (sp_due32 K) (aCons (aVar 7) (aCons (aVar 5) (aCons (aVar 8) aNil)))) aNil)))) (aTst (aOp (aEqD true) (aVar 9) (aVar 10)))) (aRet (aC (.bl false))) aNext))))))))))
 (aRet (aC (.bl true)))))
end A

/-! ## the judge: plain laws -/
namespace A
open PySem PySem.Spec L2 PyProof.Rows
local macro_rules | `(tactic| walk_at "A.go") => `(tactic| simp only [aSeq, aNext, aSet, aVar, atV_s, onB_b, onI_i, onII_i, onL1_i, onL2_i, it_l, it_t, it_s, it_x, ix_l, ix_t, ix_s, add_i, add_x, eq_i, eq_x, eq_b, is_b, aC, aNil, aCons, aOp, aUn, aTup, aLst, aCB, aNot, aAnd, aOr, aTst, aIfE, aAndV, aOrV, aNotV, aChn, aDrop, aRet, aRetN, aIf, agName, agNil, agCons, agTup, aAsg, aPar, aAug, aFor, aRng1, aRng2, aIter, aLc, aYes,
  aCl, aMt, aMk, aFl, aFst, aNeg, aI2, aI20, aLe, aLt, aGt, aGe, aSub, aMod, aMul, aFdv, aPow, aXor, aShl, aShr, agSub, aoN, aoS, aSl, aRev, aLen, aList, aTupOf, aLRg1, aLRg2, aAbs, aI2N, aMax, aMin, aDm, aAll, aAny, aBM, aApp, aPopAt, aPop, aClear, aRevM, aExt, aRepr, aClD, aLnSt, aIAdd, aBreak, aCont,
  aEnd, startA, List.map_cons, List.map_nil, List.cons_append, List.nil_append, List.length_cons, List.length_nil, List.replicate, List.getElem?_cons_zero, List.getElem?_cons_succ, List.set_cons_zero, List.set_cons_succ, Nat.reduceAdd, Nat.reduceSub, Nat.succ_eq_add_one, Int.reduceAdd, Int.reduceMul,
  reduceIte, Bool.false_eq_true, Bool.not_true, Bool.not_false, ite_true, ite_false])
local macro_rules | `(tactic| walk_at "A.hop") => `(tactic| try simp only [aMtF, aFmt, aJs, aEqO, aNeO, aReprF, aRevT, aIsiT, aInt, aStrI, aEnum, aZip, aMulL, aCount, aAugS, aSetOf, aSrtSet, aSum, aDNew, aDIn, aDIx, aDPut, aLenD, aListD, aBits, aDsp1, aBool, aSorted, wipeA, aSeq, aNext, aSet, aVar, atV_s, onB_b, onI_i, onII_i, onL1_i, onL2_i, it_l, it_t, it_s, it_x, ix_l, ix_t, ix_s, add_i, add_x, eq_i, eq_x, eq_b, is_b, aC, aNil, aCons, aOp, aUn, aTup, aLst, aCB, aNot, aAnd, aOr, aTst, aIfE, aAndV, aOrV, aNotV, aChn, aDrop, aRet, aRetN, aIf, agName, agNil, agCons, agTup, aAsg, aPar, aAug, aFor, aRng1, aRng2, aIter, aLc, aYes,
  aCl, aMt, aMk, aFl, aFst, aNeg, aI2, aI20, aLe, aLt, aGt, aGe, aSub, aMod, aMul, aFdv, aPow, aXor, aShl, aShr, agSub, aoN, aoS, aSl, aRev, aLen, aList, aTupOf, aLRg1, aLRg2, aAbs, aI2N, aMax, aMin, aDm, aAll, aAny, aBM, aApp, aPopAt, aPop, aClear, aRevM, aExt, aRepr, aClD, aLnSt, aIAdd, aBreak, aCont,
  aEnd, startA, List.map_cons, List.map_nil, List.cons_append, List.nil_append, List.length_cons, List.length_nil, List.replicate, List.getElem?_cons_zero, List.getElem?_cons_succ, List.set_cons_zero, List.set_cons_succ, Nat.reduceAdd, Nat.reduceSub, Nat.succ_eq_add_one, Int.reduceAdd, Int.reduceMul,
  reduceIte, Bool.false_eq_true, Bool.not_true, Bool.not_false, ite_true, ite_false])
local macro_rules | `(tactic| walk_at "A.lop") => `(tactic| try simp only [decide_true, decide_false, aMtF, aFmt, aJs, aEqO, aNeO, aReprF, aRevT, aIsiT, aInt, aStrI, aEnum, aZip, aMulL, aCount, aAugS, aSetOf, aSrtSet, aSum, aDNew, aDIn, aDIx, aDPut, aLenD, aListD, aBits, aDsp1, aBool, aSorted, wipeA, aSeq, aNext, aSet, aVar, atV_s, onB_b, onI_i, onII_i, onL1_i, onL2_i, it_l, it_t, it_s, it_x, ix_l, ix_t, ix_s, add_i, add_x, eq_i, eq_x, eq_b, is_b, aC, aNil, aCons, aOp, aUn, aTup, aLst, aCB, aNot, aAnd, aOr, aTst, aIfE, aAndV, aOrV, aNotV, aChn, aDrop, aRet, aRetN, aIf, agName, agNil, agCons, agTup, aAsg, aPar, aAug, aFor, aRng1, aRng2, aIter, aLc, aYes,
  aCl, aMt, aMk, aFl, aFst, aNeg, aI2, aI20, aLe, aLt, aGt, aGe, aSub, aMod, aMul, aFdv, aPow, aXor, aShl, aShr, agSub, aoN, aoS, aSl, aRev, aLen, aList, aTupOf, aLRg1, aLRg2, aAbs, aI2N, aMax, aMin, aDm, aBM, aApp, aPopAt, aPop, aClear, aRevM, aExt, aClD, aLnSt, aIAdd, aBreak, aCont,
  aEnd, startA, List.map_cons, List.map_nil, List.cons_append, List.nil_append, List.length_cons, List.length_nil, List.replicate, List.getElem?_cons_zero, List.getElem?_cons_succ, List.set_cons_zero, List.set_cons_succ, Nat.reduceAdd, Nat.reduceSub, Nat.succ_eq_add_one, Int.reduceAdd, Int.reduceMul,
  reduceIte, Bool.false_eq_true, Bool.not_true, Bool.not_false, ite_true, ite_false])
theorem adds_perm {u : Yd} (ok : u.Ok) {l m : List Int} {i : Int} (hl : Heap_ u.len l) (p : m.Perm l) (hi : InR u.len i) : u.adds m i = u.adds l i := by
  rw [adds_R ok (heap_perm hl p) hi, adds_R ok hl hi, R_iff ok (p := fun k => k ∈ m) (q := fun k => k ∈ l) fun k _ => p.mem_iff, R_iff ok (p := fun k => k ∈ m ∨ k = i) (q := fun k => k ∈ l ∨ k = i) fun k _ => by rw [p.mem_iff]]
theorem law_out_of (K : PySem.W.Frag) : ∀ ds S Q E, sp_out_of K ds S Q E → a_out_of K (aEnd Q E) (startA ["yard", "heap"] ds) S := by
  rintro ds S Q E ⟨y, u, d, hp, rfl, h, hd, hh, q⟩
  unfold a_out_of
  have n24 := h.le
  have lh := heap_len hh
  have nt : List.lookup ("things" : Str) u.flds = none := by cases u <;> rfl
  walk_at "A.lop"
  refine ⟨_, _, h.ins, h.ok, nt, y, u, rfl, h, .inl (ret ⟨_, d, rng u.len, hp, rfl, rfl, hd, by rw [rng_length]; omega, by omega, small_heap heap_rng n24, fun ns g1 g2 => NewL.ret (q ns g1 fun k => ?_).ret⟩)⟩
  rw [g2, mem_rngI]
theorem law_is_fence (K : PySem.W.Frag) : ∀ ds S Q E, sp_is_fence K ds S Q E → a_is_fence K (aEnd Q E) (startA ["yard", "heap"] ds) S := by
  rintro ds S Q E ⟨y, u, d, hp, rfl, h, hd, hh, q⟩
  unfold a_is_fence
  have nf : List.lookup ("worth_of" : Str) u.flds = none := by cases u <;> rfl
  have nw : List.lookup ("whole" : Str) u.flds = none := by cases u <;> rfl
  walk_at "A.lop"
  refine ⟨y, u, d, hp, rfl, h, hd, hh, ret ⟨_, _, h.ins, h.ok, nf, y, u, d, hp, rfl, h, hd, hh, fun ns g1 g2 => .inl (ret ?_)⟩⟩
  have hn : Heap_ u.len ns := ⟨sorted_nodup g1, fun k hk => ((g2 k).mp hk).1⟩
  refine fam_worth h (d := .lst (List.map D.int ns)) rfl hn (ret ⟨_, _, h.ins, h.ok, nw, y, u, rfl, h, ret ?_⟩)
  walk_at "A.lop"
  have e : u.worth ns = u.R (fun k => k ∉ hp) := by
    rw [R_heap h.2.1 hn]
    exact R_iff h.2.1 fun k hk => by rw [g2]; exact ⟨fun z => z.2, fun z => ⟨hk, z⟩⟩
  rw [e]
  exact ret q
theorem law_holds (K : PySem.W.Frag) : ∀ ds S Q E, sp_holds K ds S Q E → a_holds K (aEnd Q E) (startA ["yard", "told", "paper", "thing", "truth", "word", "heap", "others", "no", "one"] ds) S := by
  rintro ds S Q E ⟨y, u, d, ps, i, a, fn, e, hp, rfl, h, hd, ha, he, hh, q⟩
  unfold a_holds
  have n24 := h.le
  have lh := heap_len hh
  have ok := h.2.1
  have s1 : 1 ≤ sizeLine := by rw [sizeLine_eq]; decide
  walk_at "A.lop"
  rw [List.map_append] at hd
  refine ix_asL hd (atI_last _ _) ⟨_, rfl, rfl, rfl, y, u, fn, e, hp, rfl, h, he, hh, ret ?_⟩
  walk_at "A.lop"
  refine ⟨e, rfl, in_as he ?_⟩
  unfold holdsB at q
  by_cases ih : i ∈ hp
  · rw [decide_eq_true ih] at q ⊢
    rw [Bool.true_and] at q
    walk_at "A.lop"
    refine ⟨_, rfl, rfl, rfl, s1, .inl ⟨e, _, hp, [i], rfl, he, rfl, by omega, by simp, small_heap hh n24, fun ns g1 g2 => NewL.ret (.inl ?_)⟩⟩
    rw [← List.map_append] at hd
    refine ⟨d, ps ++ [(i, a)], rfl, hd, .inl (ret ⟨two_line, _, rfl, rfl, rfl, ?_⟩)⟩
    have hw := heap_wo (i := i) hh
    have pn : ns.Perm (wo hp i) := perm_of (sorted_nodup g1) hw.1 fun k => by rw [g2, mem_wo, List.mem_singleton]
    have hns := heap_perm hw pn
    have hi : InR u.len i := hh.2 i ih
    have inno : ∀ g : KD, g (.bl (ns.all fun x => decide (x ∈ noL (ps ++ [(i, a)])))) S → aLcL (agName 9) aYes (aOp (aIn false) (aVar 9) (aVar 8)) (fun _ => True)
        [some (.own y), some d, some (.tup [.str (wd fn), e]), some (.int i), some (.bl a), some (.str (wd fn)), some e, some (.lst (List.map D.int ns)), some (.lst (List.map D.int (noL (ps ++ [(i, a)])))), none] (fun d_1 S1 => aAll [d_1] S1 g) (List.map D.int ns) [] S := fun g hg => by
      refine lc_mp (fun x => .bl (decide (x ∈ noL (ps ++ [(i, a)])))) trivial (fun k hk g hg => ?_) (.inl ?_)
      · walk_at "A.lop"
        exact in_as (L := noL (ps ++ [(i, a)])) rfl hg
      refine all_of (bs := ns.map fun x => decide (x ∈ noL (ps ++ [(i, a)]))) (by rw [List.map_map]; rfl) ?_
      rw [List.all_map]
      exact hg
    have inany : ∀ g : KD, g (.bl (ns.any fun x => decide (x ∈ noL (ps ++ [(i, a)])))) S → aLcL (agName 9) aYes (aOp (aIn false) (aVar 9) (aVar 8)) (fun _ => True)
        [some (.own y), some d, some (.tup [.str (wd fn), e]), some (.int i), some (.bl a), some (.str (wd fn)), some e, some (.lst (List.map D.int ns)), some (.lst (List.map D.int (noL (ps ++ [(i, a)])))), none] (fun d_1 S1 => aAny [d_1] S1 g) (List.map D.int ns) [] S := fun g hg => by
      refine lc_mp (fun x => .bl (decide (x ∈ noL (ps ++ [(i, a)])))) trivial (fun k hk g hg => ?_) (.inl ?_)
      · walk_at "A.lop"
        exact in_as (L := noL (ps ++ [(i, a)])) rfl hg
      refine ⟨_, _, ns.map fun x => decide (x ∈ noL (ps ++ [(i, a)])), rfl, by rw [show List.map (fun x => D.bl (decide (x ∈ noL (ps ++ [(i, a)])))) ns = List.map D.bl (ns.map fun x => decide (x ∈ noL (ps ++ [(i, a)]))) by rw [List.map_map]; rfl]; rfl, blsOf_map _, ?_⟩
      rw [List.any_map]
      exact hg
    have ea : (ns.all fun x => decide (x ∈ noL (ps ++ [(i, a)]))) = (wo hp i).all fun x => decide (x ∈ noL (ps ++ [(i, a)])) := pn.all_eq
    have en : (ns.any fun x => decide (x ∈ noL (ps ++ [(i, a)]))) = (wo hp i).any fun x => decide (x ∈ noL (ps ++ [(i, a)])) := pn.any_eq
    have ead : u.adds ns i = u.adds (wo hp i) i := adds_perm ok hw pn hi
    rw [← ea, ← en, ← ead] at q
    cases fn with
    | true =>
      show aEqD false (.str "fence") (.str "fence") S _
      walk_at "A.lop"
      cases a with
      | false =>
        walk_at "A.lop"
        exact ret q
      | true =>
        walk_at "A.lop"
        refine inno _ ?_
        cases c : ns.all fun x => decide (x ∈ noL (ps ++ [(i, true)])) with
        | false =>
          rw [c] at q
          walk_at "A.lop"
          exact ret q
        | true =>
          rw [c] at q
          walk_at "A.lop"
          exact ⟨y, u, e, hp, rfl, h, he, hh, ret (ret q)⟩
    | false =>
      show aEqD false (.str "ring") (.str "fence") S _
      walk_at "A.lop"
      rw [if_neg (by decide)]
      cases a with
      | true =>
        walk_at "A.lop"
        exact ret q
      | false =>
        walk_at "A.lop"
        refine inany _ ?_
        cases c : ns.any fun x => decide (x ∈ noL (ps ++ [(i, false)])) with
        | true =>
          rw [c] at q
          walk_at "A.lop"
          exact ret q
        | false =>
          rw [c] at q
          walk_at "A.lop"
          refine ⟨y, u, _, ns, i, rfl, h, rfl, hns, hi, ret ?_⟩
          walk_at "A.lop"
          exact ret q
  · rw [decide_eq_false ih] at q ⊢
    rw [Bool.false_and] at q
    walk_at "A.lop"
    exact ret q
end A

/-! ## one statement at a time, in laws that name no nested yard -/
namespace A
open PySem PySem.Spec L2 PyProof.Rows
local macro_rules | `(tactic| walk_at "A.go") => `(tactic| simp only [aSeq, aNext, aSet, aVar, atV_s, onB_b, onI_i, onII_i, onL1_i, onL2_i, it_l, it_t, it_s, it_x, ix_l, ix_t, ix_s, add_i, add_x, eq_i, eq_x, eq_b, is_b, aC, aNil, aCons, aOp, aUn, aTup, aLst, aCB, aNot, aAnd, aOr, aTst, aIfE, aAndV, aOrV, aNotV, aChn, aDrop, aRet, aRetN, aIf, agName, agNil, agCons, agTup, aAsg, aPar, aAug, aFor, aRng1, aRng2, aIter, aLc, aYes,
  aCl, aMt, aMk, aFl, aFst, aNeg, aI2, aI20, aLe, aLt, aGt, aGe, aSub, aMod, aMul, aFdv, aPow, aXor, aShl, aShr, agSub, aoN, aoS, aSl, aRev, aLen, aList, aTupOf, aLRg1, aLRg2, aAbs, aI2N, aMax, aMin, aDm, aAll, aAny, aBM, aApp, aPopAt, aPop, aClear, aRevM, aExt, aRepr, aClD, aLnSt, aIAdd, aBreak, aCont,
  aEnd, startA, List.map_cons, List.map_nil, List.cons_append, List.nil_append, List.length_cons, List.length_nil, List.replicate, List.getElem?_cons_zero, List.getElem?_cons_succ, List.set_cons_zero, List.set_cons_succ, Nat.reduceAdd, Nat.reduceSub, Nat.succ_eq_add_one, Int.reduceAdd, Int.reduceMul,
  reduceIte, Bool.false_eq_true, Bool.not_true, Bool.not_false, ite_true, ite_false])
local macro_rules | `(tactic| walk_at "A.hop") => `(tactic| try simp only [aMtF, aFmt, aJs, aEqO, aNeO, aReprF, aRevT, aIsiT, aInt, aStrI, aEnum, aZip, aMulL, aCount, aAugS, aSetOf, aSrtSet, aSum, aDNew, aDIn, aDIx, aDPut, aLenD, aListD, aBits, aDsp1, aBool, aSorted, wipeA, aSeq, aNext, aSet, aVar, atV_s, onB_b, onI_i, onII_i, onL1_i, onL2_i, it_l, it_t, it_s, it_x, ix_l, ix_t, ix_s, add_i, add_x, eq_i, eq_x, eq_b, is_b, aC, aNil, aCons, aOp, aUn, aTup, aLst, aCB, aNot, aAnd, aOr, aTst, aIfE, aAndV, aOrV, aNotV, aChn, aDrop, aRet, aRetN, aIf, agName, agNil, agCons, agTup, aAsg, aPar, aAug, aFor, aRng1, aRng2, aIter, aLc, aYes,
  aCl, aMt, aMk, aFl, aFst, aNeg, aI2, aI20, aLe, aLt, aGt, aGe, aSub, aMod, aMul, aFdv, aPow, aXor, aShl, aShr, agSub, aoN, aoS, aSl, aRev, aLen, aList, aTupOf, aLRg1, aLRg2, aAbs, aI2N, aMax, aMin, aDm, aAll, aAny, aBM, aApp, aPopAt, aPop, aClear, aRevM, aExt, aRepr, aClD, aLnSt, aIAdd, aBreak, aCont,
  aEnd, startA, List.map_cons, List.map_nil, List.cons_append, List.nil_append, List.length_cons, List.length_nil, List.replicate, List.getElem?_cons_zero, List.getElem?_cons_succ, List.set_cons_zero, List.set_cons_succ, Nat.reduceAdd, Nat.reduceSub, Nat.succ_eq_add_one, Int.reduceAdd, Int.reduceMul,
  reduceIte, Bool.false_eq_true, Bool.not_true, Bool.not_false, ite_true, ite_false])
local macro_rules | `(tactic| walk_at "A.lop") => `(tactic| try simp only [decide_true, decide_false, aMtF, aFmt, aJs, aEqO, aNeO, aReprF, aRevT, aIsiT, aInt, aStrI, aEnum, aZip, aMulL, aCount, aAugS, aSetOf, aSrtSet, aSum, aDNew, aDIn, aDIx, aDPut, aLenD, aListD, aBits, aDsp1, aBool, aSorted, wipeA, aSeq, aNext, aSet, aVar, atV_s, onB_b, onI_i, onII_i, onL1_i, onL2_i, it_l, it_t, it_s, it_x, ix_l, ix_t, ix_s, add_i, add_x, eq_i, eq_x, eq_b, is_b, aC, aNil, aCons, aOp, aUn, aTup, aLst, aCB, aNot, aAnd, aOr, aTst, aIfE, aAndV, aOrV, aNotV, aChn, aDrop, aRet, aRetN, aIf, agName, agNil, agCons, agTup, aAsg, aPar, aAug, aFor, aRng1, aRng2, aIter, aLc, aYes,
  aCl, aMt, aMk, aFl, aFst, aNeg, aI2, aI20, aLe, aLt, aGt, aGe, aSub, aMod, aMul, aFdv, aPow, aXor, aShl, aShr, agSub, aoN, aoS, aSl, aRev, aLen, aList, aTupOf, aLRg1, aLRg2, aAbs, aI2N, aMax, aMin, aDm, aBM, aApp, aPopAt, aPop, aClear, aRevM, aExt, aClD, aLnSt, aIAdd, aBreak, aCont,
  aEnd, startA, List.map_cons, List.map_nil, List.cons_append, List.nil_append, List.length_cons, List.length_nil, List.replicate, List.getElem?_cons_zero, List.getElem?_cons_succ, List.set_cons_zero, List.set_cons_succ, Nat.reduceAdd, Nat.reduceSub, Nat.succ_eq_add_one, Int.reduceAdd, Int.reduceMul,
  reduceIte, Bool.false_eq_true, Bool.not_true, Bool.not_false, ite_true, ite_false])
theorem stq {a b : AS} {D : AEnds} {ρ : En} {S : Sto} (h : ∀ nx : En → Sto → Prop, (∀ ρ' S', b D ρ' S' → nx ρ' S') → a { D with nx := nx } ρ S) : aSeq a b D ρ S := h _ fun _ _ h => h
/-- a loop whose body stays closed -/
theorem frq {it : AI} {g : AG} {b : AS} {D : AEnds} {ρ : En} {S : Sto} (h : ∀ B : AS, B = b → aFor it g B D ρ S) : aFor it g b D ρ S := h b rfl
/-- an if whose branches stay closed -/
theorem ifq {c : AT} {a b : AS} {D : AEnds} {ρ : En} {S : Sto} (h : ∀ a' b' : AS, a' = a → b' = b → aIf c a' b' D ρ S) : aIf c a b D ρ S := h a b rfl rfl
theorem rdL_someS {f : D → Option PyData} : ∀ {l : List D}, (∀ x ∈ l, ∃ p, f x = some p) → ∃ ps, rdL f l = some ps ∧ ps.length = l.length
  | [], _ => ⟨[], rfl, rfl⟩
  | x :: l, h => by
    obtain ⟨p, hp⟩ := h x List.mem_cons_self
    obtain ⟨ps, hps, e⟩ := rdL_someS fun y hy => h y (List.mem_cons_of_mem _ hy)
    refine ⟨p :: ps, ?_, by rw [List.length_cons, List.length_cons, e]⟩
    unfold rdL
    simp only [hp, hps]
theorem eq_nilS {S : Sto} {d : D} {ds : List D} {neg : Bool} {Q : KD} (hd : asL S d = some ds) (hb : ∀ x ∈ ds, ∃ p, rd S 2 x = some p) (q : Q (.bl (if neg then !decide (ds = []) else decide (ds = []))) S) : aEqD neg d (.lst []) S Q := by
  obtain ⟨ps, hps, e⟩ := rdL_someS hb
  have h1 : rd S 3 d = some (.list ps) := by
    rw [rd_asL 2 hd]
    show (rdL (rd S 2) ds).map PyData.list = _
    rw [hps]
    rfl
  have ev : PyData.eqv (.list ps) (.list []) = decide (ds = []) := by
    cases ps with
    | nil => rw [decide_eq_true (List.length_eq_zero_iff.mp e.symm)]; rfl
    | cons p ps => rw [decide_eq_false (by rintro rfl; cases e)]; rfl
  have deep : ∃ n p q, n ≤ 60 ∧ rd S n d = some p ∧ rd S n (.lst []) = some q ∧ Q (.bl (if neg then !PyData.eqv p q else PyData.eqv p q)) S :=
    ⟨3, _, .list [], by decide, h1, rfl, by rw [ev]; exact q⟩
  cases d with
  | lst _ => exact deep
  | own _ => exact deep
  | _ => cases hd
end A

namespace A
open PySem PySem.Spec L2 PyProof.Rows
local macro_rules | `(tactic| walk_at "A.go") => `(tactic| simp only [aSeq, aNext, aSet, aVar, atV_s, onB_b, onI_i, onII_i, onL1_i, onL2_i, it_l, it_t, it_s, it_x, ix_l, ix_t, ix_s, add_i, add_x, eq_i, eq_x, eq_b, is_b, aC, aNil, aCons, aOp, aUn, aTup, aLst, aCB, aNot, aAnd, aOr, aTst, aIfE, aAndV, aOrV, aNotV, aChn, aDrop, aRet, aRetN, aIf, agName, agNil, agCons, agTup, aAsg, aPar, aAug, aFor, aRng1, aRng2, aIter, aLc, aYes,
  aCl, aMt, aMk, aFl, aFst, aNeg, aI2, aI20, aLe, aLt, aGt, aGe, aSub, aMod, aMul, aFdv, aPow, aXor, aShl, aShr, agSub, aoN, aoS, aSl, aRev, aLen, aList, aTupOf, aLRg1, aLRg2, aAbs, aI2N, aMax, aMin, aDm, aAll, aAny, aBM, aApp, aPopAt, aPop, aClear, aRevM, aExt, aRepr, aClD, aLnSt, aIAdd, aBreak, aCont,
  aEnd, startA, List.map_cons, List.map_nil, List.cons_append, List.nil_append, List.length_cons, List.length_nil, List.replicate, List.getElem?_cons_zero, List.getElem?_cons_succ, List.set_cons_zero, List.set_cons_succ, Nat.reduceAdd, Nat.reduceSub, Nat.succ_eq_add_one, Int.reduceAdd, Int.reduceMul,
  reduceIte, Bool.false_eq_true, Bool.not_true, Bool.not_false, ite_true, ite_false])
local macro_rules | `(tactic| walk_at "A.hop") => `(tactic| try simp only [aMtF, aFmt, aJs, aEqO, aNeO, aReprF, aRevT, aIsiT, aInt, aStrI, aEnum, aZip, aMulL, aCount, aAugS, aSetOf, aSrtSet, aSum, aDNew, aDIn, aDIx, aDPut, aLenD, aListD, aBits, aDsp1, aBool, aSorted, wipeA, aSeq, aNext, aSet, aVar, atV_s, onB_b, onI_i, onII_i, onL1_i, onL2_i, it_l, it_t, it_s, it_x, ix_l, ix_t, ix_s, add_i, add_x, eq_i, eq_x, eq_b, is_b, aC, aNil, aCons, aOp, aUn, aTup, aLst, aCB, aNot, aAnd, aOr, aTst, aIfE, aAndV, aOrV, aNotV, aChn, aDrop, aRet, aRetN, aIf, agName, agNil, agCons, agTup, aAsg, aPar, aAug, aFor, aRng1, aRng2, aIter, aLc, aYes,
  aCl, aMt, aMk, aFl, aFst, aNeg, aI2, aI20, aLe, aLt, aGt, aGe, aSub, aMod, aMul, aFdv, aPow, aXor, aShl, aShr, agSub, aoN, aoS, aSl, aRev, aLen, aList, aTupOf, aLRg1, aLRg2, aAbs, aI2N, aMax, aMin, aDm, aAll, aAny, aBM, aApp, aPopAt, aPop, aClear, aRevM, aExt, aRepr, aClD, aLnSt, aIAdd, aBreak, aCont,
  aEnd, startA, List.map_cons, List.map_nil, List.cons_append, List.nil_append, List.length_cons, List.length_nil, List.replicate, List.getElem?_cons_zero, List.getElem?_cons_succ, List.set_cons_zero, List.set_cons_succ, Nat.reduceAdd, Nat.reduceSub, Nat.succ_eq_add_one, Int.reduceAdd, Int.reduceMul,
  reduceIte, Bool.false_eq_true, Bool.not_true, Bool.not_false, ite_true, ite_false])
local macro_rules | `(tactic| walk_at "A.lop") => `(tactic| try simp only [decide_true, decide_false, aMtF, aFmt, aJs, aEqO, aNeO, aReprF, aRevT, aIsiT, aInt, aStrI, aEnum, aZip, aMulL, aCount, aAugS, aSetOf, aSrtSet, aSum, aDNew, aDIn, aDIx, aDPut, aLenD, aListD, aBits, aDsp1, aBool, aSorted, wipeA, aSeq, aNext, aSet, aVar, atV_s, onB_b, onI_i, onII_i, onL1_i, onL2_i, it_l, it_t, it_s, it_x, ix_l, ix_t, ix_s, add_i, add_x, eq_i, eq_x, eq_b, is_b, aC, aNil, aCons, aOp, aUn, aTup, aLst, aCB, aNot, aAnd, aOr, aTst, aIfE, aAndV, aOrV, aNotV, aChn, aDrop, aRet, aRetN, aIf, agName, agNil, agCons, agTup, aAsg, aPar, aAug, aFor, aRng1, aRng2, aIter, aLc, aYes,
  aCl, aMt, aMk, aFl, aFst, aNeg, aI2, aI20, aLe, aLt, aGt, aGe, aSub, aMod, aMul, aFdv, aPow, aXor, aShl, aShr, agSub, aoN, aoS, aSl, aRev, aLen, aList, aTupOf, aLRg1, aLRg2, aAbs, aI2N, aMax, aMin, aDm, aBM, aApp, aPopAt, aPop, aClear, aRevM, aExt, aClD, aLnSt, aIAdd, aBreak, aCont,
  aEnd, startA, List.map_cons, List.map_nil, List.cons_append, List.nil_append, List.length_cons, List.length_nil, List.replicate, List.getElem?_cons_zero, List.getElem?_cons_succ, List.set_cons_zero, List.set_cons_succ, Nat.reduceAdd, Nat.reduceSub, Nat.succ_eq_add_one, Int.reduceAdd, Int.reduceMul,
  reduceIte, Bool.false_eq_true, Bool.not_true, Bool.not_false, ite_true, ite_false])
local macro_rules | `(tactic| walk_at "A.lop") => `(tactic| try simp only [aDGet, aListIt, aLcIt, aDictP, aDictD, aRem, decide_true, decide_false, aMtF, aFmt, aJs, aEqO, aNeO, aReprF, aRevT, aIsiT, aInt, aStrI, aEnum, aZip, aMulL, aCount, aAugS, aSetOf, aSrtSet, aSum, aDNew, aDIn, aDIx, aDPut, aLenD, aListD, aBits, aDsp1, aBool, aSorted, wipeA, aSeq, aNext, aSet, aVar, atV_s, onB_b, onI_i, onII_i, onL1_i, onL2_i, it_l, it_t, it_s, it_x, ix_l, ix_t, ix_s, add_i, add_x, eq_i, eq_x, eq_b, is_b, aC, aNil, aCons, aOp, aUn, aTup, aLst, aCB, aNot, aAnd, aOr, aTst, aIfE, aAndV, aOrV, aNotV, aChn, aDrop, aRet, aRetN, aIf, agName, agNil, agCons, agTup, aAsg, aPar, aAug, aFor, aRng1, aRng2, aIter, aLc, aYes,
  aCl, aMt, aMk, aFl, aFst, aNeg, aI2, aI20, aLe, aLt, aGt, aGe, aSub, aMod, aMul, aFdv, aPow, aXor, aShl, aShr, agSub, aoN, aoS, aSl, aRev, aLen, aList, aTupOf, aLRg1, aLRg2, aAbs, aI2N, aMax, aMin, aDm, aBM, aApp, aPopAt, aPop, aClear, aRevM, aExt, aClD, aLnSt, aIAdd, aBreak, aCont,
  aEnd, startA, List.map_cons, List.map_nil, List.cons_append, List.nil_append, List.length_cons, List.length_nil, List.replicate, List.getElem?_cons_zero, List.getElem?_cons_succ, List.set_cons_zero, List.set_cons_succ, Nat.reduceAdd, Nat.reduceSub, Nat.succ_eq_add_one, Int.reduceAdd, Int.reduceMul,
  reduceIte, Bool.false_eq_true, Bool.not_true, Bool.not_false, ite_true, ite_false])
section
variable {u : Yd} {hp : List Int} {i : Int}
theorem srt_sub {n : Nat} {l : List Int} (h : l.Pairwise (· < ·)) (k : ∀ x ∈ l, InR n x) : l.Sublist (rng n) := by
  have e : l = (rng n).filter fun x => decide (x ∈ l) := srt_eq h (rng_srt.filter _) fun x => by
    rw [List.mem_filter]
    exact ⟨fun z => ⟨mem_rngI.mpr (k x z), decide_eq_true z⟩, fun z => of_decide_eq_true z.2⟩
  rw [e]
  exact List.filter_sublist
theorem wo_sub : (wo hp i).Sublist hp := List.filter_sublist
theorem boundB_iff : boundB u hp = true ↔ hp ≠ [] ∧ ∀ x ∈ hp, u.worth (wo hp x) = u.worth hp := by
  unfold boundB
  simp [List.all_eq_true]
/-- what is not free has a part of which no thing can be missed -/
theorem bound_in (ok : u.Ok) : ∀ (n : Nat) (l : List Int), l.length = n → Heap_ u.len l → u.worth l ≠ l.length → ∃ X, X.Sublist l ∧ boundB u X = true := by
  intro n
  induction n with
  | zero =>
    intro l hl hh ne
    have : l = [] := List.eq_nil_of_length_eq_zero hl
    subst this
    exact absurd (Yd.rk ok).nil ne
  | succ n ih =>
    intro l hl hh ne
    by_cases c : ∀ x ∈ l, u.worth (wo l x) = u.worth l
    · exact ⟨l, List.Sublist.refl _, boundB_iff.mpr ⟨(fun e => by rw [e] at hl; cases hl), c⟩⟩
    · obtain ⟨x, hx, nx⟩ : ∃ x ∈ l, u.worth (wo l x) ≠ u.worth l := by
        refine Classical.byContradiction fun z => c fun x hx => Classical.byContradiction fun y => z ⟨x, hx, y⟩
      have w := Yd.w_wo ok hh hx
      have ln := wo_len hh.1 hx
      have up : u.worth l ≤ l.length := ((Yd.rk ok).bound hh.2).2
      obtain ⟨X, hX, hb⟩ := ih (wo l x) (by omega) (heap_wo hh) (by omega)
      exact ⟨X, hX.trans wo_sub, hb⟩
theorem ring_bound (ok : u.Ok) (hh : Heap_ u.len hp) : ringB u hp = (boundB u hp && !((partsOf hp).filter fun p => decide (p.length < hp.length)).any (boundB u)) := by
  rw [Bool.eq_iff_iff]
  rw [Bool.and_eq_true, Bool.not_eq_true', ringB_iff, boundB_iff]
  constructor
  · rintro ⟨h1, h2, h3⟩
    refine ⟨⟨h1, fun x hx => by rw [h3 x hx, h2]⟩, ?_⟩
    rw [← Bool.not_eq_true, List.any_eq_true]
    rintro ⟨X, hX, hb⟩
    rw [List.mem_filter, decide_eq_true_eq] at hX
    have sX := mem_parts.mp hX.1
    obtain ⟨n1, n2⟩ := boundB_iff.mp hb
    have hhX : Heap_ u.len X := ⟨hh.1.sublist sX, fun i hi => hh.2 i (sX.subset hi)⟩
    obtain ⟨x, hx, nx⟩ : ∃ x ∈ hp, x ∉ X := by
      refine Classical.byContradiction fun z => ?_
      have : hp.length ≤ X.length := sub_len hh.1 fun x hx => Classical.byContradiction fun y => z ⟨x, hx, y⟩
      omega
    have fr : u.worth (wo hp x) = (wo hp x).length := by
      have := wo_len hh.1 hx
      rw [h3 x hx]
      omega
    have fX := free_part ok hhX (heap_wo hh) fr fun k hk => mem_wo.mpr ⟨sX.subset hk, by rintro rfl; exact nx hk⟩
    obtain ⟨y, hy⟩ := List.exists_mem_of_ne_nil _ n1
    have fy := free_part ok (heap_wo (i := y) hhX) hhX fX fun k hk => (mem_wo.mp hk).1
    have := wo_len hhX.1 hy
    have := n2 y hy
    omega
  · rintro ⟨⟨h1, h2⟩, h3⟩
    rw [← Bool.not_eq_true, List.any_eq_true] at h3
    have fr : ∀ x ∈ hp, u.worth (wo hp x) = (wo hp x).length := fun x hx => by
      refine Classical.byContradiction fun ne => ?_
      obtain ⟨X, hX, hb⟩ := bound_in ok _ _ rfl (heap_wo (i := x) hh) ne
      refine h3 ⟨X, List.mem_filter.mpr ⟨mem_parts.mpr (hX.trans wo_sub), decide_eq_true ?_⟩, hb⟩
      have := hX.length_le
      have := wo_len hh.1 hx
      omega
    have lx : ∀ x ∈ hp, u.worth (wo hp x) = (hp.length : Int) - 1 := fun x hx => by
      have := wo_len hh.1 hx
      rw [fr x hx]
      omega
    obtain ⟨y, hy⟩ := List.exists_mem_of_ne_nil _ h1
    exact ⟨h1, by rw [← h2 y hy, lx y hy], lx⟩
end
/-! ### the dict of all worths -/
theorem tkey_inj {l m : List Int} (h : tkey l = tkey m) : l = m := by
  induction l generalizing m with
  | nil => cases m with
    | nil => rfl
    | cons _ _ => cases h
  | cons a l ih => cases m with
    | nil => cases h
    | cons b m =>
      unfold tkey at h ih
      rw [List.map_cons, List.map_cons] at h
      injection h with h1 h2
      rw [Sum.inl.inj h1, ih h2]
theorem valT_put (m : List (TKey × D)) (k k' : TKey) (d : D) : valT (putT m k d) k' = if k' = k then some d else valT m k' := by
  unfold putT
  induction m with
  | nil =>
    show valT ([] ++ [(k, d)]) k' = _
    unfold valT
    by_cases c : k' = k
    · rw [if_pos c]; simp [c]
    · rw [if_neg c]; simp [Ne.symm c]
  | cons p m ih =>
    obtain ⟨q, e⟩ := p
    by_cases a : q = k
    · subst a
      rw [if_pos (by simp)]
      unfold valT
      rw [List.map_cons, if_pos rfl]
      by_cases c : k' = q
      · subst c
        rw [if_pos rfl]
        simp
      · rw [if_neg c]
        simp only [List.find?_cons, decide_eq_false (Ne.symm c)]
        have gen : ∀ m : List (TKey × D), (List.find? (fun p => decide (p.1 = k')) (m.map fun p => if p.1 = q then (p.1, d) else p)).map (·.2) = (List.find? (fun p => decide (p.1 = k')) m).map (·.2) := by
          intro m
          induction m with
          | nil => rfl
          | cons p m jh =>
            rw [List.map_cons, List.find?_cons, List.find?_cons]
            by_cases b : p.1 = q
            · rw [if_pos b]
              simp only [b, decide_eq_false (Ne.symm c)]
              exact jh
            · rw [if_neg b]
              cases decide (p.1 = k') with
              | true => rfl
              | false => exact jh
        exact gen m
    · have ea : (List.any ((q, e) :: m) fun p => decide (p.1 = k)) = m.any fun p => decide (p.1 = k) := by simp [a]
      rw [ea]
      by_cases b : (m.any fun p => decide (p.1 = k)) = true
      · rw [if_pos b] at ih ⊢
        rw [List.map_cons, if_neg a]
        by_cases c : q = k'
        · subst c
          rw [if_neg a]
          unfold valT
          simp
        · unfold valT at ih ⊢
          rw [List.find?_cons, List.find?_cons]
          simp only [decide_eq_false c]
          exact ih
      · rw [if_neg b] at ih ⊢
        rw [List.cons_append]
        by_cases c : q = k'
        · subst c
          rw [if_neg a]
          unfold valT
          simp
        · unfold valT at ih ⊢
          rw [List.find?_cons, List.find?_cons]
          simp only [decide_eq_false c]
          exact ih
end A

namespace A
open PySem PySem.Spec L2 PyProof.Rows
local macro_rules | `(tactic| walk_at "A.go") => `(tactic| simp only [aSeq, aNext, aSet, aVar, atV_s, onB_b, onI_i, onII_i, onL1_i, onL2_i, it_l, it_t, it_s, it_x, ix_l, ix_t, ix_s, add_i, add_x, eq_i, eq_x, eq_b, is_b, aC, aNil, aCons, aOp, aUn, aTup, aLst, aCB, aNot, aAnd, aOr, aTst, aIfE, aAndV, aOrV, aNotV, aChn, aDrop, aRet, aRetN, aIf, agName, agNil, agCons, agTup, aAsg, aPar, aAug, aFor, aRng1, aRng2, aIter, aLc, aYes,
  aCl, aMt, aMk, aFl, aFst, aNeg, aI2, aI20, aLe, aLt, aGt, aGe, aSub, aMod, aMul, aFdv, aPow, aXor, aShl, aShr, agSub, aoN, aoS, aSl, aRev, aLen, aList, aTupOf, aLRg1, aLRg2, aAbs, aI2N, aMax, aMin, aDm, aAll, aAny, aBM, aApp, aPopAt, aPop, aClear, aRevM, aExt, aRepr, aClD, aLnSt, aIAdd, aBreak, aCont,
  aEnd, startA, List.map_cons, List.map_nil, List.cons_append, List.nil_append, List.length_cons, List.length_nil, List.replicate, List.getElem?_cons_zero, List.getElem?_cons_succ, List.set_cons_zero, List.set_cons_succ, Nat.reduceAdd, Nat.reduceSub, Nat.succ_eq_add_one, Int.reduceAdd, Int.reduceMul,
  reduceIte, Bool.false_eq_true, Bool.not_true, Bool.not_false, ite_true, ite_false])
local macro_rules | `(tactic| walk_at "A.hop") => `(tactic| try simp only [aMtF, aFmt, aJs, aEqO, aNeO, aReprF, aRevT, aIsiT, aInt, aStrI, aEnum, aZip, aMulL, aCount, aAugS, aSetOf, aSrtSet, aSum, aDNew, aDIn, aDIx, aDPut, aLenD, aListD, aBits, aDsp1, aBool, aSorted, wipeA, aSeq, aNext, aSet, aVar, atV_s, onB_b, onI_i, onII_i, onL1_i, onL2_i, it_l, it_t, it_s, it_x, ix_l, ix_t, ix_s, add_i, add_x, eq_i, eq_x, eq_b, is_b, aC, aNil, aCons, aOp, aUn, aTup, aLst, aCB, aNot, aAnd, aOr, aTst, aIfE, aAndV, aOrV, aNotV, aChn, aDrop, aRet, aRetN, aIf, agName, agNil, agCons, agTup, aAsg, aPar, aAug, aFor, aRng1, aRng2, aIter, aLc, aYes,
  aCl, aMt, aMk, aFl, aFst, aNeg, aI2, aI20, aLe, aLt, aGt, aGe, aSub, aMod, aMul, aFdv, aPow, aXor, aShl, aShr, agSub, aoN, aoS, aSl, aRev, aLen, aList, aTupOf, aLRg1, aLRg2, aAbs, aI2N, aMax, aMin, aDm, aAll, aAny, aBM, aApp, aPopAt, aPop, aClear, aRevM, aExt, aRepr, aClD, aLnSt, aIAdd, aBreak, aCont,
  aEnd, startA, List.map_cons, List.map_nil, List.cons_append, List.nil_append, List.length_cons, List.length_nil, List.replicate, List.getElem?_cons_zero, List.getElem?_cons_succ, List.set_cons_zero, List.set_cons_succ, Nat.reduceAdd, Nat.reduceSub, Nat.succ_eq_add_one, Int.reduceAdd, Int.reduceMul,
  reduceIte, Bool.false_eq_true, Bool.not_true, Bool.not_false, ite_true, ite_false])
local macro_rules | `(tactic| walk_at "A.lop") => `(tactic| try simp only [decide_true, decide_false, aMtF, aFmt, aJs, aEqO, aNeO, aReprF, aRevT, aIsiT, aInt, aStrI, aEnum, aZip, aMulL, aCount, aAugS, aSetOf, aSrtSet, aSum, aDNew, aDIn, aDIx, aDPut, aLenD, aListD, aBits, aDsp1, aBool, aSorted, wipeA, aSeq, aNext, aSet, aVar, atV_s, onB_b, onI_i, onII_i, onL1_i, onL2_i, it_l, it_t, it_s, it_x, ix_l, ix_t, ix_s, add_i, add_x, eq_i, eq_x, eq_b, is_b, aC, aNil, aCons, aOp, aUn, aTup, aLst, aCB, aNot, aAnd, aOr, aTst, aIfE, aAndV, aOrV, aNotV, aChn, aDrop, aRet, aRetN, aIf, agName, agNil, agCons, agTup, aAsg, aPar, aAug, aFor, aRng1, aRng2, aIter, aLc, aYes,
  aCl, aMt, aMk, aFl, aFst, aNeg, aI2, aI20, aLe, aLt, aGt, aGe, aSub, aMod, aMul, aFdv, aPow, aXor, aShl, aShr, agSub, aoN, aoS, aSl, aRev, aLen, aList, aTupOf, aLRg1, aLRg2, aAbs, aI2N, aMax, aMin, aDm, aBM, aApp, aPopAt, aPop, aClear, aRevM, aExt, aClD, aLnSt, aIAdd, aBreak, aCont,
  aEnd, startA, List.map_cons, List.map_nil, List.cons_append, List.nil_append, List.length_cons, List.length_nil, List.replicate, List.getElem?_cons_zero, List.getElem?_cons_succ, List.set_cons_zero, List.set_cons_succ, Nat.reduceAdd, Nat.reduceSub, Nat.succ_eq_add_one, Int.reduceAdd, Int.reduceMul,
  reduceIte, Bool.false_eq_true, Bool.not_true, Bool.not_false, ite_true, ite_false])
local macro_rules | `(tactic| walk_at "A.lop") => `(tactic| try simp only [aDGet, aListIt, aLcIt, aDictP, aDictD, aRem, decide_true, decide_false, aMtF, aFmt, aJs, aEqO, aNeO, aReprF, aRevT, aIsiT, aInt, aStrI, aEnum, aZip, aMulL, aCount, aAugS, aSetOf, aSrtSet, aSum, aDNew, aDIn, aDIx, aDPut, aLenD, aListD, aBits, aDsp1, aBool, aSorted, wipeA, aSeq, aNext, aSet, aVar, atV_s, onB_b, onI_i, onII_i, onL1_i, onL2_i, it_l, it_t, it_s, it_x, ix_l, ix_t, ix_s, add_i, add_x, eq_i, eq_x, eq_b, is_b, aC, aNil, aCons, aOp, aUn, aTup, aLst, aCB, aNot, aAnd, aOr, aTst, aIfE, aAndV, aOrV, aNotV, aChn, aDrop, aRet, aRetN, aIf, agName, agNil, agCons, agTup, aAsg, aPar, aAug, aFor, aRng1, aRng2, aIter, aLc, aYes,
  aCl, aMt, aMk, aFl, aFst, aNeg, aI2, aI20, aLe, aLt, aGt, aGe, aSub, aMod, aMul, aFdv, aPow, aXor, aShl, aShr, agSub, aoN, aoS, aSl, aRev, aLen, aList, aTupOf, aLRg1, aLRg2, aAbs, aI2N, aMax, aMin, aDm, aBM, aApp, aPopAt, aPop, aClear, aRevM, aExt, aClD, aLnSt, aIAdd, aBreak, aCont,
  aEnd, startA, List.map_cons, List.map_nil, List.cons_append, List.nil_append, List.length_cons, List.length_nil, List.replicate, List.getElem?_cons_zero, List.getElem?_cons_succ, List.set_cons_zero, List.set_cons_succ, Nat.reduceAdd, Nat.reduceSub, Nat.succ_eq_add_one, Int.reduceAdd, Int.reduceMul,
  reduceIte, Bool.false_eq_true, Bool.not_true, Bool.not_false, ite_true, ite_false])
theorem law_is_least_fence (K : PySem.W.Frag) : ∀ ds S Q E, sp_is_least_fence K ds S Q E → a_is_least_fence K (aEnd Q E) (startA ["yard", "heap", "rest", "thing"] ds) S := by
  rintro ds S Q E ⟨y, u, d, hp, rfl, h, hd, hh, q⟩
  unfold a_is_least_fence
  have hs : sizeLine = 16777216 := sizeLine_eq
  have n24 := h.le
  have ok := h.2.1
  have lh := heap_len hh
  have nf : List.lookup ("worth_of" : Str) u.flds = none := by cases u <;> rfl
  have nw : List.lookup ("whole" : Str) u.flds = none := by cases u <;> rfl
  unfold lfenceB at q
  walk_at "A.lop"
  refine ⟨y, u, d, hp, rfl, h, hd, hh, ret ?_⟩
  cases c : fenceB u hp with
  | false =>
    rw [c, Bool.false_and] at q
    show onB _ (.bl false) _
    rw [onB_b, Bool.not_false, if_pos rfl]
    exact ret q
  | true =>
    rw [c, Bool.true_and] at q
    show onB _ (.bl true) _
    rw [onB_b, Bool.not_true, if_neg Bool.false_ne_true]
    refine ⟨y, u, d, hp, rfl, h, hd, hh, fun ns g1 g2 => .inl (ret ?_)⟩
    have hns : Heap_ u.len ns := ⟨sorted_nodup g1, fun k hk => ((g2 k).mp hk).1⟩
    have ln := heap_len hns
    refine iter_asL hd fun G hG => ?_
    refine lc_al D.int (fun x => .bl (decide (u.R (fun k => k ∉ hp ∨ k = x) = u.worth (rng u.len)))) (hG _ hd) (fun x hx g hg => ?_) (.inl ?_)
    · have ir := hh.2 x hx
      walk_at "A.lop"
      refine ⟨_, _, h.ins, h.ok, nf, by omega, .inl ⟨_, _, ns, [x], rfl, rfl, rfl, by rw [List.length_singleton]; omega, fun ms m1 m2 => NewL.ret (.inl ?_)⟩⟩
      have mm : ∀ k, k ∈ ms ↔ k ∈ ns ∨ k = x := fun k => by rw [m2, List.mem_singleton]
      have hms : Heap_ u.len ms := ⟨sorted_nodup m1, fun k hk => ((mm k).mp hk).elim (hns.2 k) fun e => e ▸ ir⟩
      refine fam_worth h (d := .lst (List.map D.int ms)) rfl hms (ret ?_)
      have ew : u.worth ms = u.R (fun k => k ∉ hp ∨ k = x) := by
        rw [R_heap ok hms]
        exact R_iff ok fun k hk => by rw [mm, g2]; simp [hk]
      rw [ew]
      refine ⟨_, _, h.ins, h.ok, nw, y, u, rfl, h, ret ?_⟩
      rw [eq_i, if_neg Bool.false_ne_true]
      exact hg
    refine all_of (bs := hp.map fun x => decide (u.R (fun k => k ∉ hp ∨ k = x) = u.worth (rng u.len))) (by rw [List.map_map]; rfl) ?_
    rw [List.all_map]
    exact ret q

theorem law_without32 (K : PySem.W.Frag) : ∀ ds S Q E, sp_without32 K ds S Q E → a_without32 K (aEnd Q E) (startA ["_law_heap", "_law_thing", "_law_one"] ds) S := by
  rintro ds S Q E ⟨d, hp, i, rfl, hd, q⟩
  unfold a_without32
  walk_at "A.lop"
  refine iter_asL hd fun G hG => ?_
  refine aLcL_inv (fun j acc S' => S' = S ∧ acc = List.map D.int ((hp.take j).filter fun k => !decide (k = i))) ?_ ?_ ⟨rfl, rfl⟩
  · rintro j z acc S' k hz ⟨rfl, rfl⟩ hk
    rw [List.getElem?_map] at hz
    obtain ⟨x, hx, rfl⟩ := Option.map_eq_some_iff.mp hz
    refine ⟨hG _ hd, ?_⟩
    have tk : hp.take (j + 1) = hp.take j ++ [x] := by rw [List.take_add_one, hx]; rfl
    walk_at "A.lop"
    by_cases c : x = i
    · rw [decide_eq_true c]
      walk_at "A.lop"
      refine hk _ _ ⟨rfl, ?_⟩
      rw [tk, List.filter_append]
      simp [c]
    · rw [decide_eq_false c]
      walk_at "A.lop"
      refine hk _ _ ⟨rfl, ?_⟩
      rw [tk, List.filter_append]
      simp [c]
  · rintro acc S' ⟨rfl, rfl⟩
    rw [List.length_map, List.take_length]
    exact ⟨hG _ hd, .inl ⟨_, _, rfl, rfl, ret q⟩⟩
theorem law_bound32 (K : PySem.W.Frag) : ∀ ds S Q E, sp_bound32 K ds S Q E → a_bound32 K (aEnd Q E) (startA ["_law_worths_here", "_law_heap", "_law_thing"] ds) S := by
  rintro ds S Q E ⟨a, m, u, d, hp, rfl, ha, ht, hd, hs, q⟩
  unfold a_bound32
  have hz : sizeLine = 16777216 := sizeLine_eq
  refine stq fun nx n0 => ?_
  walk_at "A.lop"
  refine ⟨Nat.zero_le _, .inl (eq_nilS hd (fun x hx => ?_) ?_)⟩
  · obtain ⟨k, _, rfl⟩ := List.mem_map.mp hx
    exact ⟨_, rfl⟩
  walk_at "A.lop"
  unfold boundB at q
  by_cases c : hp = []
  · subst c
    rw [decide_eq_true (show List.map D.int ([] : List Int) = [] from rfl)]
    walk_at "A.lop"
    exact ret q
  · rw [decide_eq_false (fun e => c (List.map_eq_nil_iff.mp e))]
    rw [decide_eq_false c] at q
    walk_at "A.lop"
    refine n0 _ _ ?_
    clear n0
    walk_at "A.lop"
    refine iter_asL hd fun G hG => ?_
    refine lc_al D.int (fun x => .bl (decide (u.worth (wo hp x) = u.worth hp))) (hG _ hd) (fun x hx g hg => ?_) (.inl ?_)
    · show aDIxT _ _ _ S _ _
      refine ⟨d, hp, x, rfl, hd, ret ⟨a, m, wo hp x, _, rfl, ha, rfl, ht _ (wo_sub.trans hs), ?_⟩⟩
      refine ⟨d, _, rfl, itD_asL hd, a, m, hp, _, rfl, ha, rfl, ht _ hs, ?_⟩
      exact hg
    · refine all_of (bs := hp.map fun x => decide (u.worth (wo hp x) = u.worth hp)) (by rw [List.map_map]; rfl) ?_
      rw [List.all_map]
      exact ret q
theorem law_worths32 (K : PySem.W.Frag) : ∀ ds S Q E, sp_worths32 K ds S Q E → a_worths32 K (aEnd Q E) (startA ["_law_spec_here", "_law_many", "_law_found", "_law_heap"] ds) S := by
  rintro ds S Q E ⟨u, rfl, ok, l8, q⟩
  unfold a_worths32
  have hz : sizeLine = 16777216 := sizeLine_eq
  refine stq fun nx n0 => ?_
  walk_at "A.lop"
  intro a ha
  refine n0 _ _ ?_
  clear n0
  refine stq fun nx n0 => ?_
  refine frq fun B hB => ?_
  walk_at "A.lop"
  refine ⟨⟨by omega, by omega⟩, ?_⟩
  rw [rng0]
  refine .inl ⟨_, rng u.len, rfl, rfl, by rw [rng_length]; exact l8, ret ?_⟩
  walk_at "A.lop"
  rw [hB]
  clear hB
  have pl := parts_len (rng u.len)
  rw [rng_length] at pl
  have p8 : 2 ^ u.len ≤ 2 ^ 8 := Nat.pow_le_pow_right (by decide) l8
  refine aLoop_inv (fun j ρ S' => ∃ m b3, ρ = [some (specD u), some (.int u.len), some (.own a), b3] ∧ S' = put S a (.dtt m) ∧ m.length ≤ j ∧ ∀ l ∈ (partsOf (rng u.len)).take j, valT m (tkey l) = some (.int (u.worth l))) ?_ ?_ ⟨[], none, rfl, rfl, Nat.zero_le _, fun l hl => by rw [List.take_zero] at hl; cases hl⟩
  · rintro j z ρ S' nx hz' ⟨m, b3, rfl, rfl, hm, hv⟩ hn
    rw [List.getElem?_map] at hz'
    obtain ⟨l, hl, rfl⟩ := Option.map_eq_some_iff.mp hz'
    have lt := (List.getElem?_eq_some_iff.mp hl).1
    have sl := mem_parts.mp (List.mem_of_getElem? hl)
    obtain ⟨hh, _⟩ := heap_sub sl
    refine ⟨trivial, ?_⟩
    walk_at "A.lop"
    have e8 : (2 : Nat) ^ 8 = 256 := by decide
    refine ⟨u, _, l, rfl, ok, rfl, hh.2, by have := heap_len hh; omega, ret ?_⟩
    refine ⟨a, m, l, rfl, put_same, rfl, by omega, hn _ _ ⟨_, _, rfl, put_put, ?_, ?_⟩⟩
    · have := putT_len m (tkey l) (.int (u.worth l)); omega
    · intro l' hl'
      rw [valT_put]
      by_cases c : l' = l
      · subst c; rw [if_pos rfl]
      · rw [if_neg fun e => c (tkey_inj e)]
        refine hv l' ?_
        rw [List.take_add_one, hl] at hl'
        rcases List.mem_append.mp hl' with h | h
        · exact h
        · simp at h; exact absurd h c
  · rintro ρ S' ⟨m, b3, rfl, rfl, hm, hv⟩
    rw [List.length_map, List.take_length] at hv
    refine ⟨trivial, n0 _ _ ?_⟩
    clear n0
    walk_at "A.lop"
    exact ret (q a m _ (sub_del ha) ha put_same fun l hl => hv l (mem_parts.mpr hl))
end A

namespace A
open PySem PySem.Spec L2 PyProof.Rows
local macro_rules | `(tactic| walk_at "A.go") => `(tactic| simp only [aSeq, aNext, aSet, aVar, atV_s, onB_b, onI_i, onII_i, onL1_i, onL2_i, it_l, it_t, it_s, it_x, ix_l, ix_t, ix_s, add_i, add_x, eq_i, eq_x, eq_b, is_b, aC, aNil, aCons, aOp, aUn, aTup, aLst, aCB, aNot, aAnd, aOr, aTst, aIfE, aAndV, aOrV, aNotV, aChn, aDrop, aRet, aRetN, aIf, agName, agNil, agCons, agTup, aAsg, aPar, aAug, aFor, aRng1, aRng2, aIter, aLc, aYes,
  aCl, aMt, aMk, aFl, aFst, aNeg, aI2, aI20, aLe, aLt, aGt, aGe, aSub, aMod, aMul, aFdv, aPow, aXor, aShl, aShr, agSub, aoN, aoS, aSl, aRev, aLen, aList, aTupOf, aLRg1, aLRg2, aAbs, aI2N, aMax, aMin, aDm, aAll, aAny, aBM, aApp, aPopAt, aPop, aClear, aRevM, aExt, aRepr, aClD, aLnSt, aIAdd, aBreak, aCont,
  aEnd, startA, List.map_cons, List.map_nil, List.cons_append, List.nil_append, List.length_cons, List.length_nil, List.replicate, List.getElem?_cons_zero, List.getElem?_cons_succ, List.set_cons_zero, List.set_cons_succ, Nat.reduceAdd, Nat.reduceSub, Nat.succ_eq_add_one, Int.reduceAdd, Int.reduceMul,
  reduceIte, Bool.false_eq_true, Bool.not_true, Bool.not_false, ite_true, ite_false])
local macro_rules | `(tactic| walk_at "A.hop") => `(tactic| try simp only [aMtF, aFmt, aJs, aEqO, aNeO, aReprF, aRevT, aIsiT, aInt, aStrI, aEnum, aZip, aMulL, aCount, aAugS, aSetOf, aSrtSet, aSum, aDNew, aDIn, aDIx, aDPut, aLenD, aListD, aBits, aDsp1, aBool, aSorted, wipeA, aSeq, aNext, aSet, aVar, atV_s, onB_b, onI_i, onII_i, onL1_i, onL2_i, it_l, it_t, it_s, it_x, ix_l, ix_t, ix_s, add_i, add_x, eq_i, eq_x, eq_b, is_b, aC, aNil, aCons, aOp, aUn, aTup, aLst, aCB, aNot, aAnd, aOr, aTst, aIfE, aAndV, aOrV, aNotV, aChn, aDrop, aRet, aRetN, aIf, agName, agNil, agCons, agTup, aAsg, aPar, aAug, aFor, aRng1, aRng2, aIter, aLc, aYes,
  aCl, aMt, aMk, aFl, aFst, aNeg, aI2, aI20, aLe, aLt, aGt, aGe, aSub, aMod, aMul, aFdv, aPow, aXor, aShl, aShr, agSub, aoN, aoS, aSl, aRev, aLen, aList, aTupOf, aLRg1, aLRg2, aAbs, aI2N, aMax, aMin, aDm, aAll, aAny, aBM, aApp, aPopAt, aPop, aClear, aRevM, aExt, aRepr, aClD, aLnSt, aIAdd, aBreak, aCont,
  aEnd, startA, List.map_cons, List.map_nil, List.cons_append, List.nil_append, List.length_cons, List.length_nil, List.replicate, List.getElem?_cons_zero, List.getElem?_cons_succ, List.set_cons_zero, List.set_cons_succ, Nat.reduceAdd, Nat.reduceSub, Nat.succ_eq_add_one, Int.reduceAdd, Int.reduceMul,
  reduceIte, Bool.false_eq_true, Bool.not_true, Bool.not_false, ite_true, ite_false])
local macro_rules | `(tactic| walk_at "A.lop") => `(tactic| try simp only [decide_true, decide_false, aMtF, aFmt, aJs, aEqO, aNeO, aReprF, aRevT, aIsiT, aInt, aStrI, aEnum, aZip, aMulL, aCount, aAugS, aSetOf, aSrtSet, aSum, aDNew, aDIn, aDIx, aDPut, aLenD, aListD, aBits, aDsp1, aBool, aSorted, wipeA, aSeq, aNext, aSet, aVar, atV_s, onB_b, onI_i, onII_i, onL1_i, onL2_i, it_l, it_t, it_s, it_x, ix_l, ix_t, ix_s, add_i, add_x, eq_i, eq_x, eq_b, is_b, aC, aNil, aCons, aOp, aUn, aTup, aLst, aCB, aNot, aAnd, aOr, aTst, aIfE, aAndV, aOrV, aNotV, aChn, aDrop, aRet, aRetN, aIf, agName, agNil, agCons, agTup, aAsg, aPar, aAug, aFor, aRng1, aRng2, aIter, aLc, aYes,
  aCl, aMt, aMk, aFl, aFst, aNeg, aI2, aI20, aLe, aLt, aGt, aGe, aSub, aMod, aMul, aFdv, aPow, aXor, aShl, aShr, agSub, aoN, aoS, aSl, aRev, aLen, aList, aTupOf, aLRg1, aLRg2, aAbs, aI2N, aMax, aMin, aDm, aBM, aApp, aPopAt, aPop, aClear, aRevM, aExt, aClD, aLnSt, aIAdd, aBreak, aCont,
  aEnd, startA, List.map_cons, List.map_nil, List.cons_append, List.nil_append, List.length_cons, List.length_nil, List.replicate, List.getElem?_cons_zero, List.getElem?_cons_succ, List.set_cons_zero, List.set_cons_succ, Nat.reduceAdd, Nat.reduceSub, Nat.succ_eq_add_one, Int.reduceAdd, Int.reduceMul,
  reduceIte, Bool.false_eq_true, Bool.not_true, Bool.not_false, ite_true, ite_false])
local macro_rules | `(tactic| walk_at "A.lop") => `(tactic| try simp only [aDGet, aListIt, aLcIt, aDictP, aDictD, aRem, decide_true, decide_false, aMtF, aFmt, aJs, aEqO, aNeO, aReprF, aRevT, aIsiT, aInt, aStrI, aEnum, aZip, aMulL, aCount, aAugS, aSetOf, aSrtSet, aSum, aDNew, aDIn, aDIx, aDPut, aLenD, aListD, aBits, aDsp1, aBool, aSorted, wipeA, aSeq, aNext, aSet, aVar, atV_s, onB_b, onI_i, onII_i, onL1_i, onL2_i, it_l, it_t, it_s, it_x, ix_l, ix_t, ix_s, add_i, add_x, eq_i, eq_x, eq_b, is_b, aC, aNil, aCons, aOp, aUn, aTup, aLst, aCB, aNot, aAnd, aOr, aTst, aIfE, aAndV, aOrV, aNotV, aChn, aDrop, aRet, aRetN, aIf, agName, agNil, agCons, agTup, aAsg, aPar, aAug, aFor, aRng1, aRng2, aIter, aLc, aYes,
  aCl, aMt, aMk, aFl, aFst, aNeg, aI2, aI20, aLe, aLt, aGt, aGe, aSub, aMod, aMul, aFdv, aPow, aXor, aShl, aShr, agSub, aoN, aoS, aSl, aRev, aLen, aList, aTupOf, aLRg1, aLRg2, aAbs, aI2N, aMax, aMin, aDm, aBM, aApp, aPopAt, aPop, aClear, aRevM, aExt, aClD, aLnSt, aIAdd, aBreak, aCont,
  aEnd, startA, List.map_cons, List.map_nil, List.cons_append, List.nil_append, List.length_cons, List.length_nil, List.replicate, List.getElem?_cons_zero, List.getElem?_cons_succ, List.set_cons_zero, List.set_cons_succ, Nat.reduceAdd, Nat.reduceSub, Nat.succ_eq_add_one, Int.reduceAdd, Int.reduceMul,
  reduceIte, Bool.false_eq_true, Bool.not_true, Bool.not_false, ite_true, ite_false])
theorem in_il {S : Sto} {d : D} {L : List Int} {i : Int} {neg : Bool} {Q : KD} (h : asL S d = some (List.map D.int L)) (q : Q (.bl (if neg then !decide (i ∈ L) else decide (i ∈ L))) S) : aIn neg (.int i) d S Q :=
  ⟨2, .int i, L.map PyData.int, by decide, rfl, by rw [rd_asL 1 h]; exact rd_ints (n := 0) L, by rw [any_ints]; exact q⟩
theorem law_due32 (K : PySem.W.Frag) : ∀ ds S Q E, sp_due32 K ds S Q E → a_due32 K (aEnd Q E) (startA ["_law_worths_here", "_law_many", "_law_heap", "_law_fewer", "_law_some", "_law_is_ring_here", "_law_rest", "_law_thing", "_law_whole", "_law_is_fence_here", "_law_with_one"] ds) S := by
  rintro ds S Q E ⟨a, m, u, d, hp, rfl, ha, ht, ok, l8, hd, hs, q⟩
  unfold a_due32
  have hz : sizeLine = 16777216 := sizeLine_eq
  obtain ⟨hh, hsrt⟩ := heap_sub hs
  have hlen : hp.length ≤ u.len := heap_len hh
  have pl := parts_len hp
  refine stq fun nx n0 => ?_
  walk_at "A.lop"
  refine ⟨d, hp, rfl, hd, by omega, ret ?_⟩
  walk_at "A.lop"
  refine aLcL_inv (fun j acc S' => S' = S ∧ acc = List.map iD (((partsOf hp).take j).filter fun p => decide (p.length < hp.length))) ?_ ?_ ⟨rfl, rfl⟩
  · rintro j z acc S' k hz' ⟨rfl, rfl⟩ hk
    rw [List.getElem?_map] at hz'
    obtain ⟨l, hl, rfl⟩ := Option.map_eq_some_iff.mp hz'
    refine ⟨trivial, ?_⟩
    have tk : (partsOf hp).take (j + 1) = (partsOf hp).take j ++ [l] := by rw [List.take_add_one, hl]; rfl
    walk_at "A.lop"
    refine ⟨iD l, l.length, rfl, by show some (List.map D.int l).length = _; rw [List.length_map], d, _, rfl, lenD_asL hd, ?_⟩
    rw [List.length_map]
    by_cases c : l.length < hp.length
    · rw [if_pos (decide_eq_true (by omega))]
      refine hk _ _ ⟨rfl, ?_⟩
      rw [tk, List.filter_append]
      simp [c]
    · rw [if_neg (by simp; omega)]
      refine hk _ _ ⟨rfl, ?_⟩
      rw [tk, List.filter_append]
      simp [c]
  · rintro acc S' ⟨rfl, rfl⟩
    rw [List.length_map, List.take_length]
    refine ⟨trivial, .inl (n0 _ _ ?_)⟩
    clear n0
    have fsub : ∀ X ∈ (partsOf hp).filter fun p => decide (p.length < hp.length), X.Sublist (rng u.len) := fun X hX => (mem_parts.mp (List.mem_filter.mp hX).1).trans hs
    have rb := ring_bound ok hh
    generalize (partsOf hp).filter (fun p => decide (p.length < hp.length)) = fw at fsub rb ⊢
    refine stq fun nx n0 => ?_
    walk_at "A.lop"
    refine ⟨a, m, u, d, hp, rfl, ha, ht, hd, hs, ret ?_⟩
    have s1 : nx [some (.own a), some (.int u.len), some d, some (.lst (List.map iD fw)), none, some (.bl (ringB u hp)), none, none, none, none, none] S' := by
      refine n0 _ _ ?_
      clear n0
      refine stq fun nx n0 => ?_
      walk_at "A.lop"
      refine ⟨by omega, by omega, ?_⟩
      refine lc_filter (fun k => !decide (k ∈ hp)) (fun k g hg => hg) (fun k hk g hg => ?_) (.inl (n0 _ _ ?_))
      · walk_at "A.lop"
        refine in_il hd ?_
        walk_at "A.lop"
        exact hg
      clear n0
      have hr : ((rng u.len).filter fun k => !decide (k ∈ hp)).Sublist (rng u.len) := List.filter_sublist
      have mr : ∀ k, k ∈ ((rng u.len).filter fun k => !decide (k ∈ hp)) ↔ InR u.len k ∧ k ∉ hp := fun k => by rw [List.mem_filter, mem_rngI]; simp
      generalize (rng u.len).filter (fun k => !decide (k ∈ hp)) = rs at hr mr ⊢
      obtain ⟨hrs, hrsrt⟩ := heap_sub hr
      have lr := heap_len hrs
      refine stq fun nx n0 => ?_
      walk_at "A.lop"
      refine ⟨⟨by omega, by omega⟩, ?_⟩
      rw [rng0]
      refine ⟨a, m, rng u.len, _, rfl, ha, rfl, ht _ (List.Sublist.refl _), n0 _ _ ?_⟩
      clear n0
      refine stq fun nx n0 => ?_
      walk_at "A.lop"
      refine ⟨_, _, rfl, rfl, a, m, rs, _, rfl, ha, rfl, ht _ hr, ?_⟩
      walk_at "A.lop"
      have ef : fenceB u hp = decide (u.worth rs < u.worth (rng u.len)) := by
        unfold fenceB
        rw [R_heap ok hrs, R_iff ok (p := fun k => k ∉ hp) (q := (· ∈ rs)) fun k hk => by rw [mr]; simp [hk]]
      rw [← ef]
      refine n0 _ _ ?_
      clear n0
      refine stq fun nx n0 => ?_
      walk_at "A.lop"
      refine iter_asL hd fun G hG => ?_
      refine lc_al D.int (fun x => .int (u.R (fun k => k ∉ hp ∨ k = x))) (hG _ hd) (fun x hx g hg => ?_) (.inl (n0 _ _ ?_))
      · have ir := hh.2 x hx
        have nx' : x ∉ rs := fun z => ((mr x).mp z).2 hx
        walk_at "A.lop"
        refine ⟨by show 1 ≤ sizeLine; omega, .inl ⟨_, _, rfl, rfl, by rw [List.length_map, List.length_singleton]; omega, .inl ⟨_, _, rs ++ [x], rfl, rfl, ?_, by rw [List.length_append, List.length_map, List.length_singleton]; omega, fun ns p1 p2 => .inl ⟨_, _, rfl, rfl, a, m, ns, _, rfl, ha, rfl, ht ns ?_, ?_⟩⟩⟩⟩
        · show intsOf (List.map D.int rs ++ [D.int x]) = _
          rw [show List.map D.int rs ++ [D.int x] = List.map D.int (rs ++ [x]) by rw [List.map_append]; rfl]
          exact intsOf_map _
        · have nd : ns.Nodup := p1.nodup_iff.mpr (by
            rw [List.nodup_append]
            exact ⟨hrs.1, by simp, fun a ha b hb => by rw [List.mem_singleton.mp hb]; rintro rfl; exact nx' ha⟩)
          refine srt_sub ?_ fun k hk => ?_
          · have : ns.Pairwise fun a b => a ≤ b ∧ a ≠ b := p2.and nd
            exact this.imp fun {a b} z => by omega
          · rcases List.mem_append.mp (p1.mem_iff.mp hk) with h | h
            · exact hrs.2 k h
            · rw [List.mem_singleton.mp h]; exact ir
        · have hns : Heap_ u.len ns := heap_perm (hq := ns) (hp := rs ++ [x]) ⟨by
            rw [List.nodup_append]
            exact ⟨hrs.1, by simp, fun a ha b hb => by rw [List.mem_singleton.mp hb]; rintro rfl; exact nx' ha⟩, fun k hk => by
              rcases List.mem_append.mp hk with h | h
              · exact hrs.2 k h
              · rw [List.mem_singleton.mp h]; exact ir⟩ p1
          have ew : u.worth ns = u.R (fun k => k ∉ hp ∨ k = x) := by
            rw [R_heap ok hns]
            exact R_iff ok fun k hk => by rw [p1.mem_iff, List.mem_append, List.mem_singleton, mr]; simp [hk]
          rw [ew]
          exact hg
      clear n0
      walk_at "A.lop"
      unfold lfenceB at q
      cases c : fenceB u hp with
      | false =>
        rw [c, Bool.false_and] at q
        walk_at "A.lop"
        exact ⟨by show 3 ≤ sizeLine; omega, .inl (ret q)⟩
      | true =>
        rw [c, Bool.true_and] at q
        walk_at "A.lop"
        refine ⟨by omega, .inl ⟨_, _, rfl, lenD_asL hd, _, _, rfl, rfl, by omega, by rw [List.length_map]; omega, by rw [List.length_map]; show 1 * _ ≤ _; omega, .inl ?_⟩⟩
        rw [List.length_map, Int.toNat_natCast]
        have fr : (List.replicate hp.length [D.int (u.worth (rng u.len))]).flatten = List.map D.int (hp.map fun _ => u.worth (rng u.len)) := by
          generalize hp = l
          induction l with
          | nil => rfl
          | cons x l ih =>
            rw [List.length_cons, List.replicate_succ, List.flatten_cons, ih]
            rfl
        rw [fr, show List.map (fun x => D.int (u.R fun k => k ∉ hp ∨ k = x)) hp = List.map D.int (hp.map fun x => u.R fun k => k ∉ hp ∨ k = x) by rw [List.map_map]; rfl]
        show aEqD _ _ _ _ _
        refine eq_ints (l := hp.map fun x => u.R (fun k => k ∉ hp ∨ k = x)) (m := hp.map fun _ => u.worth (rng u.len)) rfl rfl ?_
        have el : decide ((hp.map fun x => u.R (fun k => k ∉ hp ∨ k = x)) = hp.map fun _ => u.worth (rng u.len)) = hp.all fun x => decide (u.R (fun k => k ∉ hp ∨ k = x) = u.worth (rng u.len)) := by
          rw [Bool.eq_iff_iff, decide_eq_true_eq, List.all_eq_true]
          constructor
          · intro h x hx
            exact decide_eq_true (List.map_inj_left.mp h x hx)
          · intro h
            exact List.map_congr_left fun x hx => of_decide_eq_true (h x hx)
        rw [el]
        walk_at "A.lop"
        exact ⟨by show 3 ≤ sizeLine; omega, .inl (ret q)⟩
    clear n0
    rw [rb] at s1
    cases c : boundB u hp with
    | false =>
      rw [c, Bool.false_and] at s1
      walk_at "A.lop"
      exact s1
    | true =>
      rw [c, Bool.true_and] at s1
      walk_at "A.lop"
      refine lc_al iD (fun x => .bl (boundB u x)) trivial (fun x hx g hg => ?_) (.inl ?_)
      · walk_at "A.lop"
        exact ⟨a, m, u, _, x, rfl, ha, ht, rfl, fsub x hx, ret hg⟩
      refine ⟨_, _, fw.map (boundB u), rfl, rfl, by rw [show List.map (fun x => D.bl (boundB u x)) fw = List.map D.bl (fw.map (boundB u)) by rw [List.map_map]; rfl]; exact blsOf_map _, ?_⟩
      rw [List.any_map]
      exact s1
end A

namespace A
open PySem PySem.Spec L2 PyProof.Rows
local macro_rules | `(tactic| walk_at "A.go") => `(tactic| simp only [aSeq, aNext, aSet, aVar, atV_s, onB_b, onI_i, onII_i, onL1_i, onL2_i, it_l, it_t, it_s, it_x, ix_l, ix_t, ix_s, add_i, add_x, eq_i, eq_x, eq_b, is_b, aC, aNil, aCons, aOp, aUn, aTup, aLst, aCB, aNot, aAnd, aOr, aTst, aIfE, aAndV, aOrV, aNotV, aChn, aDrop, aRet, aRetN, aIf, agName, agNil, agCons, agTup, aAsg, aPar, aAug, aFor, aRng1, aRng2, aIter, aLc, aYes,
  aCl, aMt, aMk, aFl, aFst, aNeg, aI2, aI20, aLe, aLt, aGt, aGe, aSub, aMod, aMul, aFdv, aPow, aXor, aShl, aShr, agSub, aoN, aoS, aSl, aRev, aLen, aList, aTupOf, aLRg1, aLRg2, aAbs, aI2N, aMax, aMin, aDm, aAll, aAny, aBM, aApp, aPopAt, aPop, aClear, aRevM, aExt, aRepr, aClD, aLnSt, aIAdd, aBreak, aCont,
  aEnd, startA, List.map_cons, List.map_nil, List.cons_append, List.nil_append, List.length_cons, List.length_nil, List.replicate, List.getElem?_cons_zero, List.getElem?_cons_succ, List.set_cons_zero, List.set_cons_succ, Nat.reduceAdd, Nat.reduceSub, Nat.succ_eq_add_one, Int.reduceAdd, Int.reduceMul,
  reduceIte, Bool.false_eq_true, Bool.not_true, Bool.not_false, ite_true, ite_false])
local macro_rules | `(tactic| walk_at "A.hop") => `(tactic| try simp only [aMtF, aFmt, aJs, aEqO, aNeO, aReprF, aRevT, aIsiT, aInt, aStrI, aEnum, aZip, aMulL, aCount, aAugS, aSetOf, aSrtSet, aSum, aDNew, aDIn, aDIx, aDPut, aLenD, aListD, aBits, aDsp1, aBool, aSorted, wipeA, aSeq, aNext, aSet, aVar, atV_s, onB_b, onI_i, onII_i, onL1_i, onL2_i, it_l, it_t, it_s, it_x, ix_l, ix_t, ix_s, add_i, add_x, eq_i, eq_x, eq_b, is_b, aC, aNil, aCons, aOp, aUn, aTup, aLst, aCB, aNot, aAnd, aOr, aTst, aIfE, aAndV, aOrV, aNotV, aChn, aDrop, aRet, aRetN, aIf, agName, agNil, agCons, agTup, aAsg, aPar, aAug, aFor, aRng1, aRng2, aIter, aLc, aYes,
  aCl, aMt, aMk, aFl, aFst, aNeg, aI2, aI20, aLe, aLt, aGt, aGe, aSub, aMod, aMul, aFdv, aPow, aXor, aShl, aShr, agSub, aoN, aoS, aSl, aRev, aLen, aList, aTupOf, aLRg1, aLRg2, aAbs, aI2N, aMax, aMin, aDm, aAll, aAny, aBM, aApp, aPopAt, aPop, aClear, aRevM, aExt, aRepr, aClD, aLnSt, aIAdd, aBreak, aCont,
  aEnd, startA, List.map_cons, List.map_nil, List.cons_append, List.nil_append, List.length_cons, List.length_nil, List.replicate, List.getElem?_cons_zero, List.getElem?_cons_succ, List.set_cons_zero, List.set_cons_succ, Nat.reduceAdd, Nat.reduceSub, Nat.succ_eq_add_one, Int.reduceAdd, Int.reduceMul,
  reduceIte, Bool.false_eq_true, Bool.not_true, Bool.not_false, ite_true, ite_false])
local macro_rules | `(tactic| walk_at "A.lop") => `(tactic| try simp only [decide_true, decide_false, aMtF, aFmt, aJs, aEqO, aNeO, aReprF, aRevT, aIsiT, aInt, aStrI, aEnum, aZip, aMulL, aCount, aAugS, aSetOf, aSrtSet, aSum, aDNew, aDIn, aDIx, aDPut, aLenD, aListD, aBits, aDsp1, aBool, aSorted, wipeA, aSeq, aNext, aSet, aVar, atV_s, onB_b, onI_i, onII_i, onL1_i, onL2_i, it_l, it_t, it_s, it_x, ix_l, ix_t, ix_s, add_i, add_x, eq_i, eq_x, eq_b, is_b, aC, aNil, aCons, aOp, aUn, aTup, aLst, aCB, aNot, aAnd, aOr, aTst, aIfE, aAndV, aOrV, aNotV, aChn, aDrop, aRet, aRetN, aIf, agName, agNil, agCons, agTup, aAsg, aPar, aAug, aFor, aRng1, aRng2, aIter, aLc, aYes,
  aCl, aMt, aMk, aFl, aFst, aNeg, aI2, aI20, aLe, aLt, aGt, aGe, aSub, aMod, aMul, aFdv, aPow, aXor, aShl, aShr, agSub, aoN, aoS, aSl, aRev, aLen, aList, aTupOf, aLRg1, aLRg2, aAbs, aI2N, aMax, aMin, aDm, aBM, aApp, aPopAt, aPop, aClear, aRevM, aExt, aClD, aLnSt, aIAdd, aBreak, aCont,
  aEnd, startA, List.map_cons, List.map_nil, List.cons_append, List.nil_append, List.length_cons, List.length_nil, List.replicate, List.getElem?_cons_zero, List.getElem?_cons_succ, List.set_cons_zero, List.set_cons_succ, Nat.reduceAdd, Nat.reduceSub, Nat.succ_eq_add_one, Int.reduceAdd, Int.reduceMul,
  reduceIte, Bool.false_eq_true, Bool.not_true, Bool.not_false, ite_true, ite_false])
local macro_rules | `(tactic| walk_at "A.lop") => `(tactic| try simp only [aDGet, aListIt, aLcIt, aDictP, aDictD, aRem, decide_true, decide_false, aMtF, aFmt, aJs, aEqO, aNeO, aReprF, aRevT, aIsiT, aInt, aStrI, aEnum, aZip, aMulL, aCount, aAugS, aSetOf, aSrtSet, aSum, aDNew, aDIn, aDIx, aDPut, aLenD, aListD, aBits, aDsp1, aBool, aSorted, wipeA, aSeq, aNext, aSet, aVar, atV_s, onB_b, onI_i, onII_i, onL1_i, onL2_i, it_l, it_t, it_s, it_x, ix_l, ix_t, ix_s, add_i, add_x, eq_i, eq_x, eq_b, is_b, aC, aNil, aCons, aOp, aUn, aTup, aLst, aCB, aNot, aAnd, aOr, aTst, aIfE, aAndV, aOrV, aNotV, aChn, aDrop, aRet, aRetN, aIf, agName, agNil, agCons, agTup, aAsg, aPar, aAug, aFor, aRng1, aRng2, aIter, aLc, aYes,
  aCl, aMt, aMk, aFl, aFst, aNeg, aI2, aI20, aLe, aLt, aGt, aGe, aSub, aMod, aMul, aFdv, aPow, aXor, aShl, aShr, agSub, aoN, aoS, aSl, aRev, aLen, aList, aTupOf, aLRg1, aLRg2, aAbs, aI2N, aMax, aMin, aDm, aBM, aApp, aPopAt, aPop, aClear, aRevM, aExt, aClD, aLnSt, aIAdd, aBreak, aCont,
  aEnd, startA, List.map_cons, List.map_nil, List.cons_append, List.nil_append, List.length_cons, List.length_nil, List.replicate, List.getElem?_cons_zero, List.getElem?_cons_succ, List.set_cons_zero, List.set_cons_succ, Nat.reduceAdd, Nat.reduceSub, Nat.succ_eq_add_one, Int.reduceAdd, Int.reduceMul,
  reduceIte, Bool.false_eq_true, Bool.not_true, Bool.not_false, ite_true, ite_false])
theorem permI {l : List D} {r : List Int} (p : l.Perm (List.map D.int r)) : ∃ r2 : List Int, l = List.map D.int r2 ∧ r2.Perm r := by
  obtain ⟨r2, rfl⟩ : ∃ r2 : List Int, l = List.map D.int r2 := by
    refine ⟨l.map fun d => match d with | .int i => i | _ => 0, ?_⟩
    rw [List.map_map]
    refine (List.map_id l).symm.trans (List.map_congr_left fun d hd => ?_)
    obtain ⟨i, _, rfl⟩ := List.mem_map.mp (p.mem_iff.mp hd)
    rfl
  have := p.map (fun d => match d with | D.int i => i | _ => 0)
  rw [List.map_map, List.map_map] at this
  have e : ∀ l : List Int, List.map ((fun d => match d with | D.int i => i | _ => 0) ∘ D.int) l = l := fun l => (List.map_congr_left fun _ _ => rfl).trans (List.map_id l)
  rw [e, e] at this
  exact ⟨r2, rfl, this⟩
theorem law_law (K : PySem.W.Frag) : ∀ ds S Q E, sp_law K ds S Q E → a_law K (aEnd Q E) (startA ["_law_script", "_law_cells", "_law_k", "_law_pot_here", "_law_spec_here", "_law_many", "_law_yard", "_law_worths_here", "_law_heap", "_law_handed", "_law_kept", "_law_told"] ds) S := by
  rintro ds S Q E ⟨ns, rfl, hlen, hb, k4, q⟩
  unfold a_law
  have hs : sizeLine = 16777216 := sizeLine_eq
  refine stq fun nx n0 => ?_
  walk_at "A.lop"
  refine ⟨.scr ns, ns.length, rfl, rfl, trivial, trivial, n0 _ _ ?_⟩
  clear n0
  have hk : ∃ m : Nat, (if (if (3 : Int) < (ns.length : Int) then (3 : Int) else (ns.length : Int)) > 1 then (if (3 : Int) < (ns.length : Int) then (3 : Int) else (ns.length : Int)) else 1) = (m : Int) ∧ m ≤ 3 := by
    refine ⟨(if (if (3 : Int) < (ns.length : Int) then (3 : Int) else (ns.length : Int)) > 1 then (if (3 : Int) < (ns.length : Int) then (3 : Int) else (ns.length : Int)) else 1).toNat, ?_, ?_⟩ <;> split <;> split <;> omega
  obtain ⟨m, em, hm⟩ := hk
  rw [em]
  refine stq fun nx n0 => ?_
  refine frq fun B hB => ?_
  walk_at "A.lop"
  refine ⟨by omega, by omega, ?_⟩
  rw [rng0]
  refine aLoop_inv (fun j ρ S' => Sub S S' ∧ ∃ b2 b3 b4 b5 b6 b7 b8 b9 b10 b11, ρ = [some (.scr ns), some (.int m), b2, b3, b4, b5, b6, b7, b8, b9, b10, b11]) ?_ ?_ ⟨Sub.refl S, none, none, none, none, none, none, none, none, none, none, rfl⟩
  · rintro j z ρ S' nx hz ⟨sb, b2, b3, b4, b5, b6, b7, b8, b9, b10, b11, rfl⟩ hn
    rw [List.getElem?_map] at hz
    obtain ⟨k, hkk, rfl⟩ := Option.map_eq_some_iff.mp hz
    obtain ⟨k0, k1⟩ := mem_rngI.mp (List.mem_of_getElem? hkk)
    refine ⟨trivial, ?_⟩
    walk_at "A.lop"
    rw [hB]
    clear hB n0
    refine stq fun nx1 n1 => ?_
    walk_at "A.lop"
    refine ⟨ns, k, rfl, k0, by omega, hb, fun p hp => ret (n1 _ _ ?_)⟩
    clear n1
    have s1 := sb.trans (sub_del (c := Cell.pot) hp)
    have pp : put S' p .pot p = some .pot := put_same
    generalize put S' p Cell.pot = S1 at s1 pp ⊢
    refine stq fun nx1 n1 => ?_
    walk_at "A.lop"
    have most : ∀ b : Bool, ∃ c : Nat, atI [D.int 5, D.int 8] (if b then 1 else 0) = some (.int (c : Nat)) ∧ c ≤ 8 := fun b => by
      cases b
      · exact ⟨5, rfl, by decide⟩
      · exact ⟨8, rfl, by decide⟩
    obtain ⟨c, ec, hc⟩ := most (decide ((m : Int) = 1))
    refine ⟨by show 2 ≤ sizeLine; omega, .inl (.inr ⟨_, rfl, _, ec, ?_⟩)⟩
    refine ⟨p, c, rfl, pp, by omega, fun u ou lu => ret (n1 _ _ ?_)⟩
    clear n1
    have l8 : u.len ≤ 8 := by omega
    refine stq fun nx1 n1 => ?_
    obtain ⟨f, ef⟩ : ∃ f, specD u = .tup [.str u.word, f, .lst u.told] := by cases u <;> exact ⟨_, rfl⟩
    walk_at "A.lop"
    refine ⟨.lst u.told, rfl, _, _, rfl, lenD_asL rfl, ?_⟩
    rw [told_len]
    refine n1 _ _ ?_
    clear n1
    refine stq fun nx1 n1 => ?_
    walk_at "A.lop"
    refine ⟨u, rfl, ou, k4, fun y hy => ret ?_⟩
    have hall : u.so ∈ sorts K := by rw [k4.1]; exact all_so _
    have hY : IsY K (put S1 y (.ins (u.cls K) u.flds)) y u := ⟨put_same, ou, k4.2, hall⟩
    have s2 := s1.trans (sub_del (c := Cell.ins (u.cls K) u.flds) hy)
    have pp2 : put S1 y (.ins (u.cls K) u.flds) p = some .pot := put_old pp hy
    generalize put S1 y (Cell.ins (u.cls K) u.flds) = S2 at hY s2 pp2 ⊢
    refine ⟨u, rfl, ou, l8, fun a tb S3 s3 na ha ht => ret (n1 _ _ ?_)⟩
    clear n1
    have s3' := s2.trans s3
    have hY := hY.sub s3
    have pp3 := s3 _ _ pp2
    clear s2 s3 pp2 pp s1 na
    refine frq fun B hB => ?_
    walk_at "A.lop"
    refine ⟨⟨by omega, by omega⟩, ?_⟩
    rw [rng0]
    refine .inl ⟨_, rng u.len, rfl, rfl, by rw [rng_length]; exact l8, ret ?_⟩
    walk_at "A.lop"
    refine aLoop_inv (fun j ρ T => T = S3 ∧ ∃ b8 b9 b10 b11, ρ = [some (.scr ns), some (.int m), some (.int k), some (.own p), some (specD u), some (.int u.len), some (.own y), some (.own a), b8, b9, b10, b11]) ?_ ?_ ⟨rfl, _, _, _, _, rfl⟩
    · rintro j z ρ T nx2 hz ⟨rfl, b8, b9, b10, b11, rfl⟩ hn2
      rw [List.getElem?_map] at hz
      obtain ⟨l, hl, rfl⟩ := Option.map_eq_some_iff.mp hz
      have sl := mem_parts.mp (List.mem_of_getElem? hl)
      obtain ⟨hh, _⟩ := heap_sub sl
      have ll := heap_len hh
      refine ⟨trivial, ?_⟩
      walk_at "A.lop"
      rw [hB]
      clear hB
      refine stq fun nx1 n1 => ?_
      walk_at "A.lop"
      refine ⟨p, _, _, rfl, pp3, rfl, by rw [List.length_map]; omega, fun l' pl => ret (n1 _ _ ?_)⟩
      clear n1
      obtain ⟨r, rfl, pr⟩ := permI pl
      have hr := heap_perm hh pr
      refine stq fun nx1 n1 => ?_
      walk_at "A.lop"
      refine ⟨_, _, rfl, rfl, .inl (n1 _ _ ?_)⟩
      clear n1
      refine stq fun nx1 n1 => ?_
      walk_at "A.lop"
      refine ⟨y, u, _, r, rfl, hY, rfl, hr, ret ⟨y, u, _, r, rfl, hY, rfl, hr, ret ⟨y, u, _, r, rfl, hY, rfl, hr, ret ⟨by show 3 ≤ sizeLine; omega, .inl (n1 _ _ ?_)⟩⟩⟩⟩
      clear n1
      have e1 : ringB u r = ringB u l := by
        unfold ringB
        rw [pr.length_eq, Yd.worth_perm ou hr.2 pr]
        have ea : (r.all fun x => decide (u.worth (wo r x) = (l.length : Int) - 1)) = l.all fun x => decide (u.worth (wo l x) = (l.length : Int) - 1) := by
          rw [Bool.eq_iff_iff, List.all_eq_true, List.all_eq_true]
          have ew : ∀ x, u.worth (wo r x) = u.worth (wo l x) := fun x => Yd.worth_perm ou (heap_wo hr).2 (pr.filter _)
          constructor
          · intro h x hx
            have := h x (pr.mem_iff.mpr hx)
            rwa [ew] at this
          · intro h x hx
            have := h x (pr.mem_iff.mp hx)
            rwa [ew]
        rw [ea]
        congr 2
        exact decide_eq_decide.mpr ⟨fun e => by rw [e] at pr; exact pr.nil_eq.symm, fun e => by rw [e] at pr; exact pr.eq_nil⟩
      have e2 : fenceB u r = fenceB u l := by
        unfold fenceB
        rw [R_iff ou (p := fun k => k ∉ r) (q := fun k => k ∉ l) fun k _ => by rw [pr.mem_iff]]
      have e3 : lfenceB u r = lfenceB u l := by
        unfold lfenceB
        rw [e2]
        congr 1
        rw [Bool.eq_iff_iff, List.all_eq_true, List.all_eq_true]
        have ew : ∀ x, u.R (fun k => k ∉ r ∨ k = x) = u.R (fun k => k ∉ l ∨ k = x) := fun x => R_iff ou fun k _ => by rw [pr.mem_iff]
        constructor
        · intro h x hx
          have := h x (pr.mem_iff.mpr hx)
          rwa [ew] at this
        · intro h x hx
          have := h x (pr.mem_iff.mp hx)
          rwa [ew]
      rw [e1, e2, e3]
      refine ifq fun A B hA hB => ?_
      walk_at "A.lop"
      refine rep_bls (ns := [ringB u l, fenceB u l, lfenceB u l]) rfl (by show 3 ≤ 1000; decide) ⟨a, tb, u, _, l, rfl, ha, ht, ou, l8, rfl, sl, ret (rep_bls (ns := [ringB u l, fenceB u l, lfenceB u l]) rfl (by show 3 ≤ 1000; decide) ?_)⟩
      rw [eq_x]
      walk_at "A.lop"
      refine eq_ints (l := r) (m := r) rfl rfl ?_
      walk_at "A.lop"
      rw [hB]
      exact hn2 _ _ ⟨rfl, _, _, _, _, rfl⟩
    · rintro ρ T ⟨rfl, b8, b9, b10, b11, rfl⟩
      refine ⟨trivial, hn _ _ ⟨s3', _, _, _, _, _, _, _, _, _, _, rfl⟩⟩
  · rintro ρ S' ⟨sb, b2, b3, b4, b5, b6, b7, b8, b9, b10, b11, rfl⟩
    refine ⟨trivial, n0 _ _ ?_⟩
    clear n0
    walk_at "A.lop"
    exact ret_drop q sb
end A

namespace A
open PySem PySem.Spec L2 PyProof.Rows
local macro_rules | `(tactic| walk_at "A.go") => `(tactic| simp only [aSeq, aNext, aSet, aVar, atV_s, onB_b, onI_i, onII_i, onL1_i, onL2_i, it_l, it_t, it_s, it_x, ix_l, ix_t, ix_s, add_i, add_x, eq_i, eq_x, eq_b, is_b, aC, aNil, aCons, aOp, aUn, aTup, aLst, aCB, aNot, aAnd, aOr, aTst, aIfE, aAndV, aOrV, aNotV, aChn, aDrop, aRet, aRetN, aIf, agName, agNil, agCons, agTup, aAsg, aPar, aAug, aFor, aRng1, aRng2, aIter, aLc, aYes,
  aCl, aMt, aMk, aFl, aFst, aNeg, aI2, aI20, aLe, aLt, aGt, aGe, aSub, aMod, aMul, aFdv, aPow, aXor, aShl, aShr, agSub, aoN, aoS, aSl, aRev, aLen, aList, aTupOf, aLRg1, aLRg2, aAbs, aI2N, aMax, aMin, aDm, aAll, aAny, aBM, aApp, aPopAt, aPop, aClear, aRevM, aExt, aRepr, aClD, aLnSt, aIAdd, aBreak, aCont,
  aEnd, startA, List.map_cons, List.map_nil, List.cons_append, List.nil_append, List.length_cons, List.length_nil, List.replicate, List.getElem?_cons_zero, List.getElem?_cons_succ, List.set_cons_zero, List.set_cons_succ, Nat.reduceAdd, Nat.reduceSub, Nat.succ_eq_add_one, Int.reduceAdd, Int.reduceMul,
  reduceIte, Bool.false_eq_true, Bool.not_true, Bool.not_false, ite_true, ite_false])
local macro_rules | `(tactic| walk_at "A.hop") => `(tactic| try simp only [aMtF, aFmt, aJs, aEqO, aNeO, aReprF, aRevT, aIsiT, aInt, aStrI, aEnum, aZip, aMulL, aCount, aAugS, aSetOf, aSrtSet, aSum, aDNew, aDIn, aDIx, aDPut, aLenD, aListD, aBits, aDsp1, aBool, aSorted, wipeA, aSeq, aNext, aSet, aVar, atV_s, onB_b, onI_i, onII_i, onL1_i, onL2_i, it_l, it_t, it_s, it_x, ix_l, ix_t, ix_s, add_i, add_x, eq_i, eq_x, eq_b, is_b, aC, aNil, aCons, aOp, aUn, aTup, aLst, aCB, aNot, aAnd, aOr, aTst, aIfE, aAndV, aOrV, aNotV, aChn, aDrop, aRet, aRetN, aIf, agName, agNil, agCons, agTup, aAsg, aPar, aAug, aFor, aRng1, aRng2, aIter, aLc, aYes,
  aCl, aMt, aMk, aFl, aFst, aNeg, aI2, aI20, aLe, aLt, aGt, aGe, aSub, aMod, aMul, aFdv, aPow, aXor, aShl, aShr, agSub, aoN, aoS, aSl, aRev, aLen, aList, aTupOf, aLRg1, aLRg2, aAbs, aI2N, aMax, aMin, aDm, aAll, aAny, aBM, aApp, aPopAt, aPop, aClear, aRevM, aExt, aRepr, aClD, aLnSt, aIAdd, aBreak, aCont,
  aEnd, startA, List.map_cons, List.map_nil, List.cons_append, List.nil_append, List.length_cons, List.length_nil, List.replicate, List.getElem?_cons_zero, List.getElem?_cons_succ, List.set_cons_zero, List.set_cons_succ, Nat.reduceAdd, Nat.reduceSub, Nat.succ_eq_add_one, Int.reduceAdd, Int.reduceMul,
  reduceIte, Bool.false_eq_true, Bool.not_true, Bool.not_false, ite_true, ite_false])
local macro_rules | `(tactic| walk_at "A.lop") => `(tactic| try simp only [decide_true, decide_false, aMtF, aFmt, aJs, aEqO, aNeO, aReprF, aRevT, aIsiT, aInt, aStrI, aEnum, aZip, aMulL, aCount, aAugS, aSetOf, aSrtSet, aSum, aDNew, aDIn, aDIx, aDPut, aLenD, aListD, aBits, aDsp1, aBool, aSorted, wipeA, aSeq, aNext, aSet, aVar, atV_s, onB_b, onI_i, onII_i, onL1_i, onL2_i, it_l, it_t, it_s, it_x, ix_l, ix_t, ix_s, add_i, add_x, eq_i, eq_x, eq_b, is_b, aC, aNil, aCons, aOp, aUn, aTup, aLst, aCB, aNot, aAnd, aOr, aTst, aIfE, aAndV, aOrV, aNotV, aChn, aDrop, aRet, aRetN, aIf, agName, agNil, agCons, agTup, aAsg, aPar, aAug, aFor, aRng1, aRng2, aIter, aLc, aYes,
  aCl, aMt, aMk, aFl, aFst, aNeg, aI2, aI20, aLe, aLt, aGt, aGe, aSub, aMod, aMul, aFdv, aPow, aXor, aShl, aShr, agSub, aoN, aoS, aSl, aRev, aLen, aList, aTupOf, aLRg1, aLRg2, aAbs, aI2N, aMax, aMin, aDm, aBM, aApp, aPopAt, aPop, aClear, aRevM, aExt, aClD, aLnSt, aIAdd, aBreak, aCont,
  aEnd, startA, List.map_cons, List.map_nil, List.cons_append, List.nil_append, List.length_cons, List.length_nil, List.replicate, List.getElem?_cons_zero, List.getElem?_cons_succ, List.set_cons_zero, List.set_cons_succ, Nat.reduceAdd, Nat.reduceSub, Nat.succ_eq_add_one, Int.reduceAdd, Int.reduceMul,
  reduceIte, Bool.false_eq_true, Bool.not_true, Bool.not_false, ite_true, ite_false])
theorem sc_is_number : FnScope ["thing", "many"] ["thing", "many"] (defScope (top 6)) := ⟨rfl, rfl, rfl, by decide +kernel, rfl, by decide +kernel, by decide +kernel⟩
theorem sc_is_heap : FnScope ["things", "many", "thing"] ["things", "many"] (defScope (top 7)) := ⟨rfl, rfl, rfl, by decide +kernel, rfl, by decide +kernel, by decide +kernel⟩
theorem sc_joined : FnScope ["one", "other"] ["one", "other"] (defScope (top 8)) := ⟨rfl, rfl, rfl, by decide +kernel, rfl, by decide +kernel, by decide +kernel⟩
theorem sc_but : FnScope ["one", "other"] ["one", "other"] (defScope (top 9)) := ⟨rfl, rfl, rfl, by decide +kernel, rfl, by decide +kernel, by decide +kernel⟩
theorem sc_Yard_init : FnScope ["self", "many", "nested"] ["self", "many", "nested"] (defScope (inClass (top 11) 0)) := ⟨rfl, rfl, rfl, by decide +kernel, rfl, by decide +kernel, by decide +kernel⟩
theorem sc_Yard_many : FnScope ["self"] ["self"] (defScope (inClass (top 11) 1)) := ⟨rfl, rfl, rfl, by decide +kernel, rfl, by decide +kernel, by decide +kernel⟩
theorem sc_Yard_things : FnScope ["self"] ["self"] (defScope (inClass (top 11) 2)) := ⟨rfl, rfl, rfl, by decide +kernel, rfl, by decide +kernel, by decide +kernel⟩
theorem sc_Lots_worth_of : FnScope ["self", "heap", "counts", "thing", "count", "top"] ["self", "heap"] (defScope (inClass (top 23) 3)) := ⟨rfl, rfl, rfl, by decide +kernel, rfl, by decide +kernel, by decide +kernel⟩
theorem sc_Rows_worth_of : FnScope ["self", "heap", "free", "thing", "row"] ["self", "heap"] (defScope (inClass (top 26) 2)) := ⟨rfl, rfl, rfl, by decide +kernel, rfl, by decide +kernel, by decide +kernel⟩
theorem sc_finds_seat : FnScope ["rows", "thing", "sits", "tried", "seat"] ["rows", "thing", "sits", "tried"] (defScope (top 29)) := ⟨rfl, rfl, rfl, by decide +kernel, rfl, by decide +kernel, by decide +kernel⟩
theorem sc_seated : FnScope ["rows", "heap", "sits", "thing"] ["rows", "heap"] (defScope (top 30)) := ⟨rfl, rfl, rfl, by decide +kernel, rfl, by decide +kernel, by decide +kernel⟩
theorem sc_Seats_worth_of : FnScope ["self", "heap"] ["self", "heap"] (defScope (inClass (top 31) 3)) := ⟨rfl, rfl, rfl, by decide +kernel, rfl, by decide +kernel, by decide +kernel⟩
theorem sc_piece_of : FnScope ["above", "place", "here"] ["above", "place"] (defScope (top 35)) := ⟨rfl, rfl, rfl, by decide +kernel, rfl, by decide +kernel, by decide +kernel⟩
theorem sc_Ties_worth_of : FnScope ["self", "heap", "above", "found", "thing", "one", "other", "place"] ["self", "heap"] (defScope (inClass (top 36) 3)) := ⟨rfl, rfl, rfl, by decide +kernel, rfl, by decide +kernel, by decide +kernel⟩
theorem sc_Yard_whole : FnScope ["self"] ["self"] (defScope (inClass (top 11) 5)) := ⟨rfl, rfl, rfl, by decide +kernel, rfl, by decide +kernel, by decide +kernel⟩
theorem sc_want_heap : FnScope ["yard", "heap"] ["yard", "heap"] (defScope (top 12)) := ⟨rfl, rfl, rfl, by decide +kernel, rfl, by decide +kernel, by decide +kernel⟩
theorem sc_want_list : FnScope ["things"] ["things"] (defScope (top 13)) := ⟨rfl, rfl, rfl, by decide +kernel, rfl, by decide +kernel, by decide +kernel⟩
theorem sc_want_each : FnScope ["rights"] ["rights"] (defScope (top 14)) := ⟨rfl, rfl, rfl, by decide +kernel, rfl, by decide +kernel, by decide +kernel⟩
theorem sc_out_of : FnScope ["yard", "heap"] ["yard", "heap"] (defScope (top 16)) := ⟨rfl, rfl, rfl, by decide +kernel, rfl, by decide +kernel, by decide +kernel⟩
theorem sc_is_ring : FnScope ["yard", "heap", "free", "thing"] ["yard", "heap"] (defScope (top 17)) := ⟨rfl, rfl, rfl, by decide +kernel, rfl, by decide +kernel, by decide +kernel⟩
theorem sc_is_fence : FnScope ["yard", "heap"] ["yard", "heap"] (defScope (top 18)) := ⟨rfl, rfl, rfl, by decide +kernel, rfl, by decide +kernel, by decide +kernel⟩
theorem sc_is_least_fence : FnScope ["yard", "heap", "rest", "thing"] ["yard", "heap"] (defScope (top 19)) := ⟨rfl, rfl, rfl, by decide +kernel, rfl, by decide +kernel, by decide +kernel⟩
theorem sc_are_tops : FnScope ["tops", "top"] ["tops"] (defScope (top 22)) := ⟨rfl, rfl, rfl, by decide +kernel, rfl, by decide +kernel, by decide +kernel⟩
theorem sc_Lots_init : FnScope ["self", "tops", "lots", "lot"] ["self", "tops", "lots"] (defScope (inClass (top 23) 0)) := ⟨rfl, rfl, rfl, by decide +kernel, rfl, by decide +kernel, by decide +kernel⟩
theorem sc_Rows_init : FnScope ["self", "rows", "row"] ["self", "rows"] (defScope (inClass (top 26) 0)) := ⟨rfl, rfl, rfl, by decide +kernel, rfl, by decide +kernel, by decide +kernel⟩
theorem sc_Seats_init : FnScope ["self", "seats", "rows", "row"] ["self", "seats", "rows"] (defScope (inClass (top 31) 0)) := ⟨rfl, rfl, rfl, by decide +kernel, rfl, by decide +kernel, by decide +kernel⟩
theorem sc_is_pair : FnScope ["thing", "places", "place"] ["thing", "places"] (defScope (top 34)) := ⟨rfl, rfl, rfl, by decide +kernel, rfl, by decide +kernel, by decide +kernel⟩
theorem sc_Ties_init : FnScope ["self", "places", "pairs", "pair"] ["self", "places", "pairs"] (defScope (inClass (top 36) 0)) := ⟨rfl, rfl, rfl, by decide +kernel, rfl, by decide +kernel, by decide +kernel⟩
theorem sc_pot : FnScope ["_law_script", "_law_k", "_law_cell"] ["_law_script", "_law_k"] (defScope (top 38)) := ⟨rfl, rfl, rfl, by decide +kernel, rfl, by decide +kernel, by decide +kernel⟩
theorem sc_take : FnScope ["_law_pot_here", "_law_many", "_law_digit"] ["_law_pot_here", "_law_many"] (defScope (top 39)) := ⟨rfl, rfl, rfl, by decide +kernel, rfl, by decide +kernel, by decide +kernel⟩
theorem sc_shuffled : FnScope ["_law_pot_here", "_law_some", "_law_left", "_law_found", "_law_k"] ["_law_pot_here", "_law_some"] (defScope (top 41)) := ⟨rfl, rfl, rfl, by decide +kernel, rfl, by decide +kernel, by decide +kernel⟩
theorem sc_pairs : FnScope ["_law_pot_here", "_law_places", "_law_many", "_law_k"] ["_law_pot_here", "_law_places", "_law_many"] (defScope (top 42)) := ⟨rfl, rfl, rfl, by decide +kernel, rfl, by decide +kernel, by decide +kernel⟩
theorem sc_seat_rows : FnScope ["_law_pot_here", "_law_seats", "_law_many", "_law_found", "_law_k", "_law_row", "_law_seat"] ["_law_pot_here", "_law_seats", "_law_many"] (defScope (top 43)) := ⟨rfl, rfl, rfl, by decide +kernel, rfl, by decide +kernel, by decide +kernel⟩
theorem sc_with_alike : FnScope ["_law_pot_here", "_law_rows", "_law_found", "_law_k"] ["_law_pot_here", "_law_rows"] (defScope (top 44)) := ⟨rfl, rfl, rfl, by decide +kernel, rfl, by decide +kernel, by decide +kernel⟩
theorem sc_spec : FnScope ["_law_pot_here", "_law_most", "_law_sort", "_law_many", "_law_places", "_law_wide", "_law_k", "_law_tops", "_law_seats"] ["_law_pot_here", "_law_most"] (defScope (top 45)) := ⟨rfl, rfl, rfl, by decide +kernel, rfl, by decide +kernel, by decide +kernel⟩
theorem sc_made : FnScope ["_law_spec_here", "_law_sort", "_law_first", "_law_rows", "_law_row"] ["_law_spec_here"] (defScope (top 46)) := ⟨rfl, rfl, rfl, by decide +kernel, rfl, by decide +kernel, by decide +kernel⟩
theorem sc_joined_places : FnScope ["_law_places", "_law_pairs_here", "_law_found", "_law_a", "_law_b", "_law_one", "_law_other", "_law_piece"] ["_law_places", "_law_pairs_here"] (defScope (top 47)) := ⟨rfl, rfl, rfl, by decide +kernel, rfl, by decide +kernel, by decide +kernel⟩
theorem sc_free_rows : FnScope ["_law_rows", "_law_found", "_law_row", "_law_one"] ["_law_rows"] (defScope (top 48)) := ⟨rfl, rfl, rfl, by decide +kernel, rfl, by decide +kernel, by decide +kernel⟩
theorem sc_in_lots : FnScope ["_law_tops", "_law_lots", "_law_k", "_law_top"] ["_law_tops", "_law_lots"] (defScope (top 49)) := ⟨rfl, rfl, rfl, by decide +kernel, rfl, by decide +kernel, by decide +kernel⟩
theorem sc_finds : FnScope ["_law_thing", "_law_rows", "_law_sits", "_law_tried", "_law_seat"] ["_law_thing", "_law_rows", "_law_sits", "_law_tried"] (defScope (top 50)) := ⟨rfl, rfl, rfl, by decide +kernel, rfl, by decide +kernel, by decide +kernel⟩
theorem sc_sitting : FnScope ["_law_rows", "_law_sits", "_law_k"] ["_law_rows"] (defScope (top 51)) := ⟨rfl, rfl, rfl, by decide +kernel, rfl, by decide +kernel, by decide +kernel⟩
theorem sc_worth : FnScope ["_law_spec_here", "_law_heap", "_law_sort", "_law_first", "_law_rows", "_law_some", "_law_k"] ["_law_spec_here", "_law_heap"] (defScope (top 52)) := ⟨rfl, rfl, rfl, by decide +kernel, rfl, by decide +kernel, by decide +kernel⟩
theorem sc_heaps_of : FnScope ["_law_heap", "_law_found", "_law_thing", "_law_some"] ["_law_heap"] (defScope (top 53)) := ⟨rfl, rfl, rfl, by decide +kernel, rfl, by decide +kernel, by decide +kernel⟩
theorem sc_worths32 : FnScope ["_law_spec_here", "_law_many", "_law_found", "_law_heap"] ["_law_spec_here", "_law_many"] (defScope (top 54)) := ⟨rfl, rfl, rfl, by decide +kernel, rfl, by decide +kernel, by decide +kernel⟩
theorem sc_without32 : FnScope ["_law_heap", "_law_thing", "_law_one"] ["_law_heap", "_law_thing"] (defScope (top 55)) := ⟨rfl, rfl, rfl, by decide +kernel, rfl, by decide +kernel, by decide +kernel⟩
theorem sc_bound32 : FnScope ["_law_worths_here", "_law_heap", "_law_thing"] ["_law_worths_here", "_law_heap"] (defScope (top 56)) := ⟨rfl, rfl, rfl, by decide +kernel, rfl, by decide +kernel, by decide +kernel⟩
theorem sc_due32 : FnScope ["_law_worths_here", "_law_many", "_law_heap", "_law_fewer", "_law_some", "_law_is_ring_here", "_law_rest", "_law_thing", "_law_whole", "_law_is_fence_here", "_law_with_one"] ["_law_worths_here", "_law_many", "_law_heap"] (defScope (top 57)) := ⟨rfl, rfl, rfl, by decide +kernel, rfl, by decide +kernel, by decide +kernel⟩
theorem sc_law : FnScope ["_law_script", "_law_cells", "_law_k", "_law_pot_here", "_law_spec_here", "_law_many", "_law_yard", "_law_worths_here", "_law_heap", "_law_handed", "_law_kept", "_law_told"] ["_law_script"] (defScope (top 58)) := ⟨rfl, rfl, rfl, by decide +kernel, rfl, by decide +kernel, by decide +kernel⟩
section
variable {P : Program} {w : World} {K : PySem.W.Frag} {mg : Str → Option Value} {base h : Heap} (hX : K.In h) (hG : h.Ns mainGlobals mg) (c : SaysX fc fn K)
include hX hG c
theorem fn_is_number {fd : FuncData} (F : FunD K (d1).name (d1).qual (d1).params (d1).body (d1).scope ((d1).dvs K) ((d1).kws K) (He.fAd K (d1).at_) fd) : FnA P w K mg base 1 (He.fAd K (d1).at_) fd ["thing", "many"] (sp_is_number K) :=
  fnA_of (a := a_is_number K) F sc_is_number (len_is_number K) (fun cdv A outer s H E hr => ⟨_, (ss_one (s_ret (ea_and (ea_callB (c_isi (ok := okY K) (fun C hC => (by have e : C = He.ga K "Ties" ∨ C = He.ga K "Rows" ∨ C = He.ga K "Lots" ∨ C = He.ga K "Seats" := okL_or hC (c.ck 1 rfl); rcases e with e | e | e | e  <;> (subst e; first | exact isi_ok (c.ck 2 rfl) | exact isi_ok (c.ck 3 rfl) | exact isi_ok (c.ck 4 rfl) | exact isi_ok (c.ck 5 rfl))))) (He.free_ok hX hG (c.ck 6 rfl)) (ar_cons (ea_v 0) (ar_cons (ea_bty (He.free_ok hX hG (c.ck 0 rfl))) ar_nil))) (ea_and (ea_not (ea_callB (c_isi (ok := okY K) (fun C hC => (by have e : C = He.ga K "Ties" ∨ C = He.ga K "Rows" ∨ C = He.ga K "Lots" ∨ C = He.ga K "Seats" := okL_or hC (c.ck 1 rfl); rcases e with e | e | e | e  <;> (subst e; first | exact isi_ok (c.ck 2 rfl) | exact isi_ok (c.ck 3 rfl) | exact isi_ok (c.ck 4 rfl) | exact isi_ok (c.ck 5 rfl))))) (He.free_ok hX hG (c.ck 6 rfl)) (ar_cons (ea_v 0) (ar_cons (ea_bty (He.free_ok hX hG (c.ck 7 rfl))) ar_nil)))) (ea_one (ea_chain o_le o_lt ea_int (ea_v 0) (ea_v 1)))))))⟩) (law_is_number K)
theorem g_is_number : GF P w K mg base "is_number" 1 ["thing", "many"] (sp_is_number K) := by
  obtain ⟨fd, F⟩ := c.df 1 (d := d1) rfl
  exact ⟨_, fd, He.glo_ok hX hG (c.ck 66 rfl), F.kp, (F.bindsN fun _ _ _ _ _ _ us hl => match us, hl with | [_, _], _ => rfl), fn_is_number hX hG c F⟩
theorem fn_is_heap {fd : FuncData} (F : FunD K (d2).name (d2).qual (d2).params (d2).body (d2).scope ((d2).dvs K) ((d2).kws K) (He.fAd K (d2).at_) fd) : FnA P w K mg base 2 (He.fAd K (d2).at_) fd ["things", "many"] (sp_is_heap K) :=
  fnA_of (a := a_is_heap K) F sc_is_heap (len_is_heap K) (fun cdv A outer s H E hr => ⟨_, (ss_cons (s_if (WstA.t (wa_or (ta_not (ta_val (ea_callB (c_isi (ok := okY K) (fun C hC => (by have e : C = He.ga K "Ties" ∨ C = He.ga K "Rows" ∨ C = He.ga K "Lots" ∨ C = He.ga K "Seats" := okL_or hC (c.ck 1 rfl); rcases e with e | e | e | e  <;> (subst e; first | exact isi_ok (c.ck 2 rfl) | exact isi_ok (c.ck 3 rfl) | exact isi_ok (c.ck 4 rfl) | exact isi_ok (c.ck 5 rfl))))) (He.free_ok hX hG (c.ck 6 rfl)) (ar_cons (ea_v 0) (ar_cons (ea_bty (He.free_ok hX hG (c.ck 8 rfl))) ar_nil))))) (wa_or1 (ta_not (ta_val (ea_callB (c_all rfl) (He.free_ok hX hG (c.ck 9 rfl)) (ar_cons (ea_lc rfl sc_is_heap.nd (i_seq (ea_v 0)) (own := [("thing", 2)]) (blkOk_by (N := ["things", "many", "thing"]) (sc := defScope (top 7)) (by decide +kernel)) (wgt_name (by decide)) (fun s H C cl fp => (g_name (i := 2) sc_is_heap.nd)) (fun s H C cl fp => ⟨_, ts_nil⟩) (fun s H C cl fp => ⟨_, (ea_call (g_is_number hX hG c) (hr.mono (by decide)) tk0 (ar_cons (ea_v 2) (ar_cons (ea_v 1) ar_nil)))⟩) (s, H, 0, [], [])) ar_nil))))))) (ss_one (s_ret ea_bl)) ss_nil)
 (ss_one (s_ret (ea_cmp (o_eq ⟨_, hr⟩) (ea_lnSt rfl (He.free_ok hX hG (c.ck 10 rfl)) (He.free_ok hX hG (c.ck 11 rfl)) (ea_v 0)) (ea_callB c_len (He.free_ok hX hG (c.ck 10 rfl)) (ar_cons (ea_v 0) ar_nil))))))⟩) (law_is_heap K)
theorem g_is_heap : GF P w K mg base "is_heap" 2 ["things", "many"] (sp_is_heap K) := by
  obtain ⟨fd, F⟩ := c.df 2 (d := d2) rfl
  exact ⟨_, fd, He.glo_ok hX hG (c.ck 67 rfl), F.kp, (F.bindsN fun _ _ _ _ _ _ us hl => match us, hl with | [_, _], _ => rfl), fn_is_heap hX hG c F⟩
theorem fn_joined {fd : FuncData} (F : FunD K (d3).name (d3).qual (d3).params (d3).body (d3).scope ((d3).dvs K) ((d3).kws K) (He.fAd K (d3).at_) fd) : FnA P w K mg base 1 (He.fAd K (d3).at_) fd ["one", "other"] (sp_joined K) :=
  fnA_of (a := a_joined K) F sc_joined (len_joined K) (fun cdv A outer s H E hr => ⟨_, (ss_one (s_ret (ea_callB (c_srtSet rfl) (He.free_ok hX hG (c.ck 12 rfl)) (ar_cons (ea_callTy (c_set rfl) (He.free_ok hX hG (c.ck 11 rfl)) (ar_cons (ea_op o_add (ea_v 0) (ea_v 1)) ar_nil)) ar_nil))))⟩) (law_joined K)
theorem g_joined : GF P w K mg base "joined" 1 ["one", "other"] (sp_joined K) := by
  obtain ⟨fd, F⟩ := c.df 3 (d := d3) rfl
  exact ⟨_, fd, He.glo_ok hX hG (c.ck 68 rfl), F.kp, (F.bindsN fun _ _ _ _ _ _ us hl => match us, hl with | [_, _], _ => rfl), fn_joined hX hG c F⟩
theorem fn_but {fd : FuncData} (F : FunD K (d4).name (d4).qual (d4).params (d4).body (d4).scope ((d4).dvs K) ((d4).kws K) (He.fAd K (d4).at_) fd) : FnA P w K mg base 1 (He.fAd K (d4).at_) fd ["one", "other"] (sp_but K) :=
  fnA_of (a := a_but K) F sc_but (len_but K) (fun cdv A outer s H E hr => ⟨_, (ss_one (s_ret (ea_callB (c_srtSet rfl) (He.free_ok hX hG (c.ck 12 rfl)) (ar_cons (ea_op o_subS (ea_callTy (c_set rfl) (He.free_ok hX hG (c.ck 11 rfl)) (ar_cons (ea_v 0) ar_nil)) (ea_callTy (c_set rfl) (He.free_ok hX hG (c.ck 11 rfl)) (ar_cons (ea_v 1) ar_nil))) ar_nil))))⟩) (law_but K)
theorem g_but : GF P w K mg base "but" 1 ["one", "other"] (sp_but K) := by
  obtain ⟨fd, F⟩ := c.df 4 (d := d4) rfl
  exact ⟨_, fd, He.glo_ok hX hG (c.ck 69 rfl), F.kp, (F.bindsN fun _ _ _ _ _ _ us hl => match us, hl with | [_, _], _ => rfl), fn_but hX hG c F⟩
theorem fn_Yard_init {fd : FuncData} (F : FunD K (d5).name (d5).qual (d5).params (d5).body (d5).scope ((d5).dvs K) ((d5).kws K) (He.fAd K (d5).at_) fd) : FnA P w K mg base 1 (He.fAd K (d5).at_) fd ["self", "many", "nested"] (sp_Yard_init K) :=
  fnA_of (a := a_Yard_init K) F sc_Yard_init (len_Yard_init K) (fun cdv A outer s H E hr => ⟨_, (ss_cons (s_fld (ok := okY K) (ea_listRg1 rfl (He.free_ok hX hG (c.ck 8 rfl)) (He.free_ok hX hG (c.ck 13 rfl)) (ea_v 1)) (ea_v 0) (fun C hC => (by have e : C = He.ga K "Ties" ∨ C = He.ga K "Rows" ∨ C = He.ga K "Lots" ∨ C = He.ga K "Seats" := okL_or hC (c.ck 1 rfl); rcases e with e | e | e | e  <;> (subst e; first | exact fd_ok (c.ck 14 rfl) (c.ck 15 rfl) | exact fd_ok (c.ck 16 rfl) (c.ck 17 rfl) | exact fd_ok (c.ck 18 rfl) (c.ck 19 rfl) | exact fd_ok (c.ck 20 rfl) (c.ck 21 rfl)))))
 (ss_one (s_fld (ok := okY K) (ea_v 2) (ea_v 0) (fun C hC => (by have e : C = He.ga K "Ties" ∨ C = He.ga K "Rows" ∨ C = He.ga K "Lots" ∨ C = He.ga K "Seats" := okL_or hC (c.ck 1 rfl); rcases e with e | e | e | e  <;> (subst e; first | exact fd_ok (c.ck 14 rfl) (c.ck 22 rfl) | exact fd_ok (c.ck 16 rfl) (c.ck 23 rfl) | exact fd_ok (c.ck 18 rfl) (c.ck 24 rfl) | exact fd_ok (c.ck 20 rfl) (c.ck 25 rfl)))))))⟩) (law_Yard_init K)
theorem cm_Yard_init : CMF P w K mg base "Yard" "__init__" 1 ["self", "many", "nested"] [.int 0] (sp_Yard_init K) := by
  obtain ⟨fd, F⟩ := c.df 5 (d := d5) rfl
  obtain ⟨us, hv, hb⟩ := FunD.binds0 (ps := ["self", "many", "nested"]) F 2 (List.cons_ne_nil _ _) rfl fun D doc pm an cdv ct us ks h1 h2 => match us, ks, h1, h2 with | [_, _], [_], _, _ => ⟨_, _, _, _, _, _, rfl, rfl, rfl⟩
  obtain ⟨h1, h2⟩ := clm_ok (c.ck 70 rfl)
  exact ⟨_, _, _, fd, [V.int 0], us, He.glo_ok hX hG (c.ck 71 rfl), h1, h2, F.kp, hv, fun F => .cons (.int 0) .nil, hb, fn_Yard_init hX hG c F⟩
theorem fn_Yard_many {fd : FuncData} (F : FunD K (d6).name (d6).qual (d6).params (d6).body (d6).scope ((d6).dvs K) ((d6).kws K) (He.fAd K (d6).at_) fd) : FnA P w K mg base 1 (He.fAd K (d6).at_) fd ["self"] (sp_Yard_many K) :=
  fnA_of (a := a_Yard_many K) F sc_Yard_many (len_Yard_many K) (fun cdv A outer s H E hr => ⟨_, (ss_one (s_ret (ea_callB c_len (He.free_ok hX hG (c.ck 10 rfl)) (ar_cons (ea_fld (ok := okY K) (ea_v 0) (fun C hC => (by have e : C = He.ga K "Ties" ∨ C = He.ga K "Rows" ∨ C = He.ga K "Lots" ∨ C = He.ga K "Seats" := okL_or hC (c.ck 1 rfl); rcases e with e | e | e | e  <;> (subst e; first | exact fd_ok (c.ck 14 rfl) (c.ck 15 rfl) | exact fd_ok (c.ck 16 rfl) (c.ck 17 rfl) | exact fd_ok (c.ck 18 rfl) (c.ck 19 rfl) | exact fd_ok (c.ck 20 rfl) (c.ck 21 rfl))))) ar_nil))))⟩) (law_Yard_many K)
theorem m_Ties_many : MF P w K mg base (He.ga K "Ties") "many" 1 ["self"] (sp_Yard_many K) := by
  obtain ⟨fd, F⟩ := c.df 6 (d := d6) rfl
  exact ⟨He.cls_ok (c.ck 14 rfl), _, fd, mt_ok (c.ck 72 rfl), (F.bindsN fun _ _ _ _ _ _ us hl => match us, hl with | [_], _ => rfl), fn_Yard_many hX hG c F⟩
theorem m_Rows_many : MF P w K mg base (He.ga K "Rows") "many" 1 ["self"] (sp_Yard_many K) := by
  obtain ⟨fd, F⟩ := c.df 6 (d := d6) rfl
  exact ⟨He.cls_ok (c.ck 16 rfl), _, fd, mt_ok (c.ck 73 rfl), (F.bindsN fun _ _ _ _ _ _ us hl => match us, hl with | [_], _ => rfl), fn_Yard_many hX hG c F⟩
theorem m_Lots_many : MF P w K mg base (He.ga K "Lots") "many" 1 ["self"] (sp_Yard_many K) := by
  obtain ⟨fd, F⟩ := c.df 6 (d := d6) rfl
  exact ⟨He.cls_ok (c.ck 18 rfl), _, fd, mt_ok (c.ck 74 rfl), (F.bindsN fun _ _ _ _ _ _ us hl => match us, hl with | [_], _ => rfl), fn_Yard_many hX hG c F⟩
theorem m_Seats_many : MF P w K mg base (He.ga K "Seats") "many" 1 ["self"] (sp_Yard_many K) := by
  obtain ⟨fd, F⟩ := c.df 6 (d := d6) rfl
  exact ⟨He.cls_ok (c.ck 20 rfl), _, fd, mt_ok (c.ck 75 rfl), (F.bindsN fun _ _ _ _ _ _ us hl => match us, hl with | [_], _ => rfl), fn_Yard_many hX hG c F⟩
theorem fn_Yard_things {fd : FuncData} (F : FunD K (d7).name (d7).qual (d7).params (d7).body (d7).scope ((d7).dvs K) ((d7).kws K) (He.fAd K (d7).at_) fd) : FnA P w K mg base 1 (He.fAd K (d7).at_) fd ["self"] (sp_Yard_things K) :=
  fnA_of (a := a_Yard_things K) F sc_Yard_things (len_Yard_things K) (fun cdv A outer s H E hr => ⟨_, (ss_one (s_ret (ea_callTy c_list (He.free_ok hX hG (c.ck 8 rfl)) (ar_cons (ea_fld (ok := okY K) (ea_v 0) (fun C hC => (by have e : C = He.ga K "Ties" ∨ C = He.ga K "Rows" ∨ C = He.ga K "Lots" ∨ C = He.ga K "Seats" := okL_or hC (c.ck 1 rfl); rcases e with e | e | e | e  <;> (subst e; first | exact fd_ok (c.ck 14 rfl) (c.ck 15 rfl) | exact fd_ok (c.ck 16 rfl) (c.ck 17 rfl) | exact fd_ok (c.ck 18 rfl) (c.ck 19 rfl) | exact fd_ok (c.ck 20 rfl) (c.ck 21 rfl))))) ar_nil))))⟩) (law_Yard_things K)
theorem m_Ties_things : MF P w K mg base (He.ga K "Ties") "things" 1 ["self"] (sp_Yard_things K) := by
  obtain ⟨fd, F⟩ := c.df 7 (d := d7) rfl
  exact ⟨He.cls_ok (c.ck 14 rfl), _, fd, mt_ok (c.ck 76 rfl), (F.bindsN fun _ _ _ _ _ _ us hl => match us, hl with | [_], _ => rfl), fn_Yard_things hX hG c F⟩
theorem m_Rows_things : MF P w K mg base (He.ga K "Rows") "things" 1 ["self"] (sp_Yard_things K) := by
  obtain ⟨fd, F⟩ := c.df 7 (d := d7) rfl
  exact ⟨He.cls_ok (c.ck 16 rfl), _, fd, mt_ok (c.ck 77 rfl), (F.bindsN fun _ _ _ _ _ _ us hl => match us, hl with | [_], _ => rfl), fn_Yard_things hX hG c F⟩
theorem m_Lots_things : MF P w K mg base (He.ga K "Lots") "things" 1 ["self"] (sp_Yard_things K) := by
  obtain ⟨fd, F⟩ := c.df 7 (d := d7) rfl
  exact ⟨He.cls_ok (c.ck 18 rfl), _, fd, mt_ok (c.ck 78 rfl), (F.bindsN fun _ _ _ _ _ _ us hl => match us, hl with | [_], _ => rfl), fn_Yard_things hX hG c F⟩
theorem m_Seats_things : MF P w K mg base (He.ga K "Seats") "things" 1 ["self"] (sp_Yard_things K) := by
  obtain ⟨fd, F⟩ := c.df 7 (d := d7) rfl
  exact ⟨He.cls_ok (c.ck 20 rfl), _, fd, mt_ok (c.ck 79 rfl), (F.bindsN fun _ _ _ _ _ _ us hl => match us, hl with | [_], _ => rfl), fn_Yard_things hX hG c F⟩
theorem fn_Lots_worth_of {fd : FuncData} (F : FunD K (d26).name (d26).qual (d26).params (d26).body (d26).scope ((d26).dvs K) ((d26).kws K) (He.fAd K (d26).at_) fd) : FnA P w K mg base 1 (He.fAd K (d26).at_) fd ["self", "heap"] (sp_Lots_worth_of K) :=
  fnA_of (a := a_Lots_worth_of K) F sc_Lots_worth_of (len_Lots_worth_of K) (fun cdv A outer s H E hr => ⟨_, (ss_cons (s_set (i := 2) (ea_op o_mulL (ea_lst (ar_cons ea_int ar_nil)) (ea_callB c_len (He.free_ok hX hG (c.ck 10 rfl)) (ar_cons (ea_fld (ok := okY K) (ea_v 0) (fun C hC => (by have e : C = He.ga K "Ties" ∨ C = He.ga K "Rows" ∨ C = He.ga K "Lots" ∨ C = He.ga K "Seats" := okL_or hC (c.ck 1 rfl); rcases e with e | e | e | e  <;> (subst e; first | exact fd_ok (c.ck 14 rfl) (c.ck 28 rfl) | exact fd_ok (c.ck 16 rfl) (c.ck 29 rfl) | exact fd_ok (c.ck 18 rfl) (c.ck 30 rfl) | exact fd_ok (c.ck 20 rfl) (c.ck 31 rfl))))) ar_nil))) sc_Lots_worth_of.nd)
 (ss_cons (s_for passT rfl (i_seq (ea_v 1)) (g_name (i := 3) sc_Lots_worth_of.nd) (ss_one (s_augS (ea_v 2) (ea_ix (ea_fld (ok := okY K) (ea_v 0) (fun C hC => (by have e : C = He.ga K "Ties" ∨ C = He.ga K "Rows" ∨ C = He.ga K "Lots" ∨ C = He.ga K "Seats" := okL_or hC (c.ck 1 rfl); rcases e with e | e | e | e  <;> (subst e; first | exact fd_ok (c.ck 14 rfl) (c.ck 32 rfl) | exact fd_ok (c.ck 16 rfl) (c.ck 33 rfl) | exact fd_ok (c.ck 18 rfl) (c.ck 34 rfl) | exact fd_ok (c.ck 20 rfl) (c.ck 35 rfl))))) (ea_v 3)) ea_int ip_add)))
 (ss_one (s_ret (ea_callB (c_sum rfl) (He.free_ok hX hG (c.ck 38 rfl)) (ar_cons (ea_lc rfl sc_Lots_worth_of.nd (i_zip (He.free_ok hX hG (c.ck 36 rfl)) (ar_cons (ea_v 2) (ar_cons (ea_fld (ok := okY K) (ea_v 0) (fun C hC => (by have e : C = He.ga K "Ties" ∨ C = He.ga K "Rows" ∨ C = He.ga K "Lots" ∨ C = He.ga K "Seats" := okL_or hC (c.ck 1 rfl); rcases e with e | e | e | e  <;> (subst e; first | exact fd_ok (c.ck 14 rfl) (c.ck 28 rfl) | exact fd_ok (c.ck 16 rfl) (c.ck 29 rfl) | exact fd_ok (c.ck 18 rfl) (c.ck 30 rfl) | exact fd_ok (c.ck 20 rfl) (c.ck 31 rfl))))) ar_nil))) (own := [("count", 4), ("top", 5)]) (blkOk_by (N := ["self", "heap", "counts", "thing", "count", "top"]) (sc := defScope (inClass (top 23) 3)) (by decide +kernel)) (wgt_tup (K := K) (wgs_cons (by decide) (wgs_cons (by decide) wgs_nil))) (fun s H C cl fp => (g_tup (n := 2) rfl (gs_cons (g_name (i := 4) sc_Lots_worth_of.nd) (gs_cons (g_name (i := 5) sc_Lots_worth_of.nd) gs_nil)) noWAny)) (fun s H C cl fp => ⟨_, ts_nil⟩) (fun s H C cl fp => ⟨_, (ea_callB (c_min2 rfl) (He.free_ok hX hG (c.ck 37 rfl)) (ar_cons (ea_v 4) (ar_cons (ea_v 5) ar_nil)))⟩) (s, H, 0, [], [])) ar_nil))))))⟩) (law_Lots_worth_of K)
theorem m_Lots_worth_of : MF P w K mg base (He.ga K "Lots") "worth_of" 1 ["self", "heap"] (sp_Lots_worth_of K) := by
  obtain ⟨fd, F⟩ := c.df 26 (d := d26) rfl
  exact ⟨He.cls_ok (c.ck 18 rfl), _, fd, mt_ok (c.ck 80 rfl), (F.bindsN fun _ _ _ _ _ _ us hl => match us, hl with | [_, _], _ => rfl), fn_Lots_worth_of hX hG c F⟩
theorem fn_Rows_worth_of {fd : FuncData} (F : FunD K (d32).name (d32).qual (d32).params (d32).body (d32).scope ((d32).dvs K) ((d32).kws K) (He.fAd K (d32).at_) fd) : FnA P w K mg base 1 (He.fAd K (d32).at_) fd ["self", "heap"] (sp_Rows_worth_of K) :=
  fnA_of (a := a_Rows_worth_of K) F sc_Rows_worth_of (len_Rows_worth_of K) (fun cdv A outer s H E hr => ⟨_, (ss_cons (s_set (i := 2) ea_dnew sc_Rows_worth_of.nd)
 (ss_cons (s_for passT rfl (i_seq (ea_v 1)) (g_name (i := 3) sc_Rows_worth_of.nd) (ss_cons (s_set (i := 4) (ea_ix (ea_fld (ok := okY K) (ea_v 0) (fun C hC => (by have e : C = He.ga K "Ties" ∨ C = He.ga K "Rows" ∨ C = He.ga K "Lots" ∨ C = He.ga K "Seats" := okL_or hC (c.ck 1 rfl); rcases e with e | e | e | e  <;> (subst e; first | exact fd_ok (c.ck 14 rfl) (c.ck 40 rfl) | exact fd_ok (c.ck 16 rfl) (c.ck 41 rfl) | exact fd_ok (c.ck 18 rfl) (c.ck 42 rfl) | exact fd_ok (c.ck 20 rfl) (c.ck 43 rfl))))) (ea_v 3)) sc_Rows_worth_of.nd)
 (ss_cons (s_while passT (ta_din hr (ea_bits (ea_v 4)) (ea_v 2)) (ss_one (s_aug (i := 4) ip_xor (ea_dix hr (ea_v 2) (ea_bits (ea_v 4))) sc_Rows_worth_of.nd)))
 (ss_one (s_if (ta_cmp o_gt (ea_v 4) ea_int) (ss_one (s_dput hr (ea_v 4) (ea_v 2) (ea_bits (ea_v 4)))) ss_nil)))))
 (ss_one (s_ret (ea_callB c_lenD (He.free_ok hX hG (c.ck 10 rfl)) (ar_cons (ea_v 2) ar_nil))))))⟩) (law_Rows_worth_of K)
theorem m_Rows_worth_of : MF P w K mg base (He.ga K "Rows") "worth_of" 1 ["self", "heap"] (sp_Rows_worth_of K) := by
  obtain ⟨fd, F⟩ := c.df 32 (d := d32) rfl
  exact ⟨He.cls_ok (c.ck 16 rfl), _, fd, mt_ok (c.ck 81 rfl), (F.bindsN fun _ _ _ _ _ _ us hl => match us, hl with | [_, _], _ => rfl), fn_Rows_worth_of hX hG c F⟩
theorem fn_finds_seat {fd : FuncData} (F : FunD K (d36).name (d36).qual (d36).params (d36).body (d36).scope ((d36).dvs K) ((d36).kws K) (He.fAd K (d36).at_) fd) : ∀ n : Nat, FnA P w K mg base (0 + n) (He.fAd K (d36).at_) fd ["rows", "thing", "sits", "tried"] (sp_finds_seat K n) := by
  intro n
  induction n with
  | zero => exact fnA_never (zero_finds_seat K)
  | succ n ih => exact fnA_of (a := a_finds_seat K (sp_finds_seat K n)) F sc_finds_seat (len_finds_seat K (n + 1)) (fun cdv A outer s H E hr => ⟨_, (ss_cons (s_for passT rfl (i_seq (ea_ix (ea_v 0) (ea_v 1))) (g_name (i := 4) sc_finds_seat.nd) (ss_one (s_if (ta_cmp (o_notin ⟨_, hr⟩) (ea_v 4) (ea_v 3)) (ss_cons (s_expr (ea_bm m_append PySem.F.slot_list_append PySem.F.type_list_append (ea_v 3) (ar_cons (ea_v 4) ar_nil)))
 (ss_one (s_if (WstA.t (wa_or (ta_dnotin hr (ea_v 4) (ea_v 2)) (wa_or1 (ta_val (ea_call ⟨_, fd, (He.glo_ok hX hG (c.ck 82 rfl)), F.kp, (F.bindsN fun _ _ _ _ _ _ us hl => match us, hl with | [_, _, _, _], _ => rfl), ih⟩ hr takesT (ar_cons (ea_v 0) (ar_cons (ea_dix hr (ea_v 2) (ea_v 4)) (ar_cons (ea_v 2) (ar_cons (ea_v 3) ar_nil))))))))) (ss_cons (s_dput hr (ea_v 1) (ea_v 2) (ea_v 4))
 (ss_one (s_ret ea_bl))) ss_nil))) ss_nil)))
 (ss_one (s_ret ea_bl)))⟩) (law_finds_seat K n)
theorem g_finds_seat (n : Nat) : GF P w K mg base "finds_seat" (0 + n) ["rows", "thing", "sits", "tried"] (sp_finds_seat K n) := by
  obtain ⟨fd, F⟩ := c.df 36 (d := d36) rfl
  exact ⟨_, fd, He.glo_ok hX hG (c.ck 82 rfl), F.kp, (F.bindsN fun _ _ _ _ _ _ us hl => match us, hl with | [_, _, _, _], _ => rfl), fn_finds_seat hX hG c F n⟩
theorem fn_seated {fd : FuncData} (F : FunD K (d37).name (d37).qual (d37).params (d37).body (d37).scope ((d37).dvs K) ((d37).kws K) (He.fAd K (d37).at_) fd) : FnA P w K mg base 14 (He.fAd K (d37).at_) fd ["rows", "heap"] (sp_seated K) :=
  fnA_of (a := a_seated K) F sc_seated (len_seated K) (fun cdv A outer s H E hr => ⟨_, (ss_cons (s_set (i := 2) ea_dnew sc_seated.nd)
 (ss_cons (s_for passT rfl (i_seq (ea_v 1)) (g_name (i := 3) sc_seated.nd) (ss_one (s_expr (ea_call (g_finds_seat hX hG c 13) (hr.mono (by decide)) takesT (ar_cons (ea_v 0) (ar_cons (ea_v 3) (ar_cons (ea_v 2) (ar_cons (ea_lst ar_nil) ar_nil))))))))
 (ss_one (s_ret (ea_v 2)))))⟩) (law_seated K)
theorem g_seated : GF P w K mg base "seated" 14 ["rows", "heap"] (sp_seated K) := by
  obtain ⟨fd, F⟩ := c.df 37 (d := d37) rfl
  exact ⟨_, fd, He.glo_ok hX hG (c.ck 83 rfl), F.kp, (F.bindsN fun _ _ _ _ _ _ us hl => match us, hl with | [_, _], _ => rfl), fn_seated hX hG c F⟩
theorem fn_Seats_worth_of {fd : FuncData} (F : FunD K (d41).name (d41).qual (d41).params (d41).body (d41).scope ((d41).dvs K) ((d41).kws K) (He.fAd K (d41).at_) fd) : FnA P w K mg base 15 (He.fAd K (d41).at_) fd ["self", "heap"] (sp_Seats_worth_of K) :=
  fnA_of (a := a_Seats_worth_of K) F sc_Seats_worth_of (len_Seats_worth_of K) (fun cdv A outer s H E hr => ⟨_, (ss_one (s_ret (ea_callB c_lenD (He.free_ok hX hG (c.ck 10 rfl)) (ar_cons (ea_call (g_seated hX hG c) (hr.mono (by decide)) takesT (ar_cons (ea_fld (ok := okY K) (ea_v 0) (fun C hC => (by have e : C = He.ga K "Ties" ∨ C = He.ga K "Rows" ∨ C = He.ga K "Lots" ∨ C = He.ga K "Seats" := okL_or hC (c.ck 1 rfl); rcases e with e | e | e | e  <;> (subst e; first | exact fd_ok (c.ck 14 rfl) (c.ck 40 rfl) | exact fd_ok (c.ck 16 rfl) (c.ck 41 rfl) | exact fd_ok (c.ck 18 rfl) (c.ck 42 rfl) | exact fd_ok (c.ck 20 rfl) (c.ck 43 rfl))))) (ar_cons (ea_v 1) ar_nil))) ar_nil))))⟩) (law_Seats_worth_of K)
theorem m_Seats_worth_of : MF P w K mg base (He.ga K "Seats") "worth_of" 15 ["self", "heap"] (sp_Seats_worth_of K) := by
  obtain ⟨fd, F⟩ := c.df 41 (d := d41) rfl
  exact ⟨He.cls_ok (c.ck 20 rfl), _, fd, mt_ok (c.ck 84 rfl), (F.bindsN fun _ _ _ _ _ _ us hl => match us, hl with | [_, _], _ => rfl), fn_Seats_worth_of hX hG c F⟩
theorem fn_piece_of {fd : FuncData} (F : FunD K (d46).name (d46).qual (d46).params (d46).body (d46).scope ((d46).dvs K) ((d46).kws K) (He.fAd K (d46).at_) fd) : FnA P w K mg base 1 (He.fAd K (d46).at_) fd ["above", "place"] (sp_piece_of K) :=
  fnA_of (a := a_piece_of K) F sc_piece_of (len_piece_of K) (fun cdv A outer s H E hr => ⟨_, (ss_cons (s_set (i := 2) (ea_v 1) sc_piece_of.nd)
 (ss_cons (s_while passT (ta_cmp (o_ne ⟨_, hr⟩) (ea_ix (ea_v 0) (ea_v 2)) (ea_v 2)) (ss_one (s_set (i := 2) (ea_ix (ea_v 0) (ea_v 2)) sc_piece_of.nd)))
 (ss_one (s_ret (ea_v 2)))))⟩) (law_piece_of K)
theorem g_piece_of : GF P w K mg base "piece_of" 1 ["above", "place"] (sp_piece_of K) := by
  obtain ⟨fd, F⟩ := c.df 46 (d := d46) rfl
  exact ⟨_, fd, He.glo_ok hX hG (c.ck 85 rfl), F.kp, (F.bindsN fun _ _ _ _ _ _ us hl => match us, hl with | [_, _], _ => rfl), fn_piece_of hX hG c F⟩
theorem fn_Ties_worth_of {fd : FuncData} (F : FunD K (d50).name (d50).qual (d50).params (d50).body (d50).scope ((d50).dvs K) ((d50).kws K) (He.fAd K (d50).at_) fd) : FnA P w K mg base 2 (He.fAd K (d50).at_) fd ["self", "heap"] (sp_Ties_worth_of K) :=
  fnA_of (a := a_Ties_worth_of K) F sc_Ties_worth_of (len_Ties_worth_of K) (fun cdv A outer s H E hr => ⟨_, (ss_cons (s_set (i := 2) (ea_listRg1 rfl (He.free_ok hX hG (c.ck 8 rfl)) (He.free_ok hX hG (c.ck 13 rfl)) (ea_fld (ok := okY K) (ea_v 0) (fun C hC => (by have e : C = He.ga K "Ties" ∨ C = He.ga K "Rows" ∨ C = He.ga K "Lots" ∨ C = He.ga K "Seats" := okL_or hC (c.ck 1 rfl); rcases e with e | e | e | e  <;> (subst e; first | exact fd_ok (c.ck 14 rfl) (c.ck 51 rfl) | exact fd_ok (c.ck 16 rfl) (c.ck 52 rfl) | exact fd_ok (c.ck 18 rfl) (c.ck 53 rfl) | exact fd_ok (c.ck 20 rfl) (c.ck 54 rfl)))))) sc_Ties_worth_of.nd)
 (ss_cons (s_set (i := 3) ea_int sc_Ties_worth_of.nd)
 (ss_cons (s_for passT rfl (i_seq (ea_v 1)) (g_name (i := 4) sc_Ties_worth_of.nd) (ss_cons (s_asg (ea_lc rfl sc_Ties_worth_of.nd (i_seq (ea_ix (ea_fld (ok := okY K) (ea_v 0) (fun C hC => (by have e : C = He.ga K "Ties" ∨ C = He.ga K "Rows" ∨ C = He.ga K "Lots" ∨ C = He.ga K "Seats" := okL_or hC (c.ck 1 rfl); rcases e with e | e | e | e  <;> (subst e; first | exact fd_ok (c.ck 14 rfl) (c.ck 55 rfl) | exact fd_ok (c.ck 16 rfl) (c.ck 56 rfl) | exact fd_ok (c.ck 18 rfl) (c.ck 57 rfl) | exact fd_ok (c.ck 20 rfl) (c.ck 58 rfl))))) (ea_v 4))) (own := [("place", 7)]) (blkOk_by (N := ["self", "heap", "above", "found", "thing", "one", "other", "place"]) (sc := defScope (inClass (top 36) 3)) (by decide +kernel)) (wgt_name (by decide)) (fun s H C cl fp => (g_name (i := 7) sc_Ties_worth_of.nd)) (fun s H C cl fp => ⟨_, ts_nil⟩) (fun s H C cl fp => ⟨_, (ea_call (g_piece_of hX hG c) (hr.mono (by decide)) tk0 (ar_cons (ea_v 2) (ar_cons (ea_v 7) ar_nil)))⟩) (s, H, 0, [], [])) (g_tup (n := 2) rfl (gs_cons (g_name (i := 5) sc_Ties_worth_of.nd) (gs_cons (g_name (i := 6) sc_Ties_worth_of.nd) gs_nil)) wofAny))
 (ss_one (s_if (ta_cmp (o_ne ⟨_, hr⟩) (ea_v 5) (ea_v 6)) (ss_cons (s_asg (ea_v 6) (g_sub (ea_v 2) (ea_v 5)))
 (ss_one (s_aug (i := 3) ip_add ea_int sc_Ties_worth_of.nd))) ss_nil))))
 (ss_one (s_ret (ea_v 3))))))⟩) (law_Ties_worth_of K)
theorem m_Ties_worth_of : MF P w K mg base (He.ga K "Ties") "worth_of" 2 ["self", "heap"] (sp_Ties_worth_of K) := by
  obtain ⟨fd, F⟩ := c.df 50 (d := d50) rfl
  exact ⟨He.cls_ok (c.ck 14 rfl), _, fd, mt_ok (c.ck 86 rfl), (F.bindsN fun _ _ _ _ _ _ us hl => match us, hl with | [_, _], _ => rfl), fn_Ties_worth_of hX hG c F⟩
theorem mf_Ties_worth_of : MF P w K mg base (He.ga K "Ties") "worth_of" 15 ["self", "heap"] (fam_worth_of K (He.ga K "Ties")) := (m_Ties_worth_of hX hG c).imp (by decide) (fam_worth_of_Ties K)
theorem mf_Rows_worth_of : MF P w K mg base (He.ga K "Rows") "worth_of" 15 ["self", "heap"] (fam_worth_of K (He.ga K "Rows")) := (m_Rows_worth_of hX hG c).imp (by decide) (fam_worth_of_Rows K)
theorem mf_Lots_worth_of : MF P w K mg base (He.ga K "Lots") "worth_of" 15 ["self", "heap"] (fam_worth_of K (He.ga K "Lots")) := (m_Lots_worth_of hX hG c).imp (by decide) (fam_worth_of_Lots K)
theorem mf_Seats_worth_of : MF P w K mg base (He.ga K "Seats") "worth_of" 15 ["self", "heap"] (fam_worth_of K (He.ga K "Seats")) := (m_Seats_worth_of hX hG c).imp (by decide) (fam_worth_of_Seats K)
theorem fn_Yard_whole {fd : FuncData} (F : FunD K (d10).name (d10).qual (d10).params (d10).body (d10).scope ((d10).dvs K) ((d10).kws K) (He.fAd K (d10).at_) fd) : FnA P w K mg base 16 (He.fAd K (d10).at_) fd ["self"] (sp_Yard_whole K) :=
  fnA_of (a := a_Yard_whole K) F sc_Yard_whole (len_Yard_whole K) (fun cdv A outer s H E hr => ⟨_, (ss_one (s_ret (ea_methF (ok := okY K) (sp := fam_worth_of K) (ea_v 0) (fun C hC => (by have e : C = He.ga K "Ties" ∨ C = He.ga K "Rows" ∨ C = He.ga K "Lots" ∨ C = He.ga K "Seats" := okL_or hC (c.ck 1 rfl); rcases e with e | e | e | e  <;> (subst e; first | exact mf_Ties_worth_of hX hG c | exact mf_Rows_worth_of hX hG c | exact mf_Lots_worth_of hX hG c | exact mf_Seats_worth_of hX hG c))) (hr.mono (by decide)) takesT (ar_cons (ea_meth0 (ok := okY K) (ea_v 0) (fun C hC => (by have e : C = He.ga K "Ties" ∨ C = He.ga K "Rows" ∨ C = He.ga K "Lots" ∨ C = He.ga K "Seats" := okL_or hC (c.ck 1 rfl); rcases e with e | e | e | e  <;> (subst e; first | exact m_Ties_things hX hG c | exact m_Rows_things hX hG c | exact m_Lots_things hX hG c | exact m_Seats_things hX hG c))) (hr.mono (by decide)) takesT) ar_nil))))⟩) (law_Yard_whole K)
theorem m_Ties_whole : MF P w K mg base (He.ga K "Ties") "whole" 16 ["self"] (sp_Yard_whole K) := by
  obtain ⟨fd, F⟩ := c.df 10 (d := d10) rfl
  exact ⟨He.cls_ok (c.ck 14 rfl), _, fd, mt_ok (c.ck 87 rfl), (F.bindsN fun _ _ _ _ _ _ us hl => match us, hl with | [_], _ => rfl), fn_Yard_whole hX hG c F⟩
theorem m_Rows_whole : MF P w K mg base (He.ga K "Rows") "whole" 16 ["self"] (sp_Yard_whole K) := by
  obtain ⟨fd, F⟩ := c.df 10 (d := d10) rfl
  exact ⟨He.cls_ok (c.ck 16 rfl), _, fd, mt_ok (c.ck 88 rfl), (F.bindsN fun _ _ _ _ _ _ us hl => match us, hl with | [_], _ => rfl), fn_Yard_whole hX hG c F⟩
theorem m_Lots_whole : MF P w K mg base (He.ga K "Lots") "whole" 16 ["self"] (sp_Yard_whole K) := by
  obtain ⟨fd, F⟩ := c.df 10 (d := d10) rfl
  exact ⟨He.cls_ok (c.ck 18 rfl), _, fd, mt_ok (c.ck 89 rfl), (F.bindsN fun _ _ _ _ _ _ us hl => match us, hl with | [_], _ => rfl), fn_Yard_whole hX hG c F⟩
theorem m_Seats_whole : MF P w K mg base (He.ga K "Seats") "whole" 16 ["self"] (sp_Yard_whole K) := by
  obtain ⟨fd, F⟩ := c.df 10 (d := d10) rfl
  exact ⟨He.cls_ok (c.ck 20 rfl), _, fd, mt_ok (c.ck 90 rfl), (F.bindsN fun _ _ _ _ _ _ us hl => match us, hl with | [_], _ => rfl), fn_Yard_whole hX hG c F⟩
theorem fn_want_heap {fd : FuncData} (F : FunD K (d15).name (d15).qual (d15).params (d15).body (d15).scope ((d15).dvs K) ((d15).kws K) (He.fAd K (d15).at_) fd) : FnA P w K mg base 3 (He.fAd K (d15).at_) fd ["yard", "heap"] (sp_want_heap K) :=
  fnA_of (a := a_want_heap K) F sc_want_heap (len_want_heap K) (fun cdv A outer s H E hr => ⟨_, (ss_one (s_if (ta_not (ta_val (ea_call (g_is_heap hX hG c) (hr.mono (by decide)) takesT (ar_cons (ea_v 1) (ar_cons (ea_meth0 (ok := okY K) (ea_v 0) (fun C hC => (by have e : C = He.ga K "Ties" ∨ C = He.ga K "Rows" ∨ C = He.ga K "Lots" ∨ C = He.ga K "Seats" := okL_or hC (c.ck 1 rfl); rcases e with e | e | e | e  <;> (subst e; first | exact m_Ties_many hX hG c | exact m_Rows_many hX hG c | exact m_Lots_many hX hG c | exact m_Seats_many hX hG c))) (hr.mono (by decide)) takesT) ar_nil))))) (ss_one s_never) ss_nil))⟩) (law_want_heap K)
theorem g_want_heap : GF P w K mg base "want_heap" 3 ["yard", "heap"] (sp_want_heap K) := by
  obtain ⟨fd, F⟩ := c.df 15 (d := d15) rfl
  exact ⟨_, fd, He.glo_ok hX hG (c.ck 91 rfl), F.kp, (F.bindsN fun _ _ _ _ _ _ us hl => match us, hl with | [_, _], _ => rfl), fn_want_heap hX hG c F⟩
theorem fn_want_list {fd : FuncData} (F : FunD K (d16).name (d16).qual (d16).params (d16).body (d16).scope ((d16).dvs K) ((d16).kws K) (He.fAd K (d16).at_) fd) : FnA P w K mg base 1 (He.fAd K (d16).at_) fd ["things"] (sp_want_list K) :=
  fnA_of (a := a_want_list K) F sc_want_list (len_want_list K) (fun cdv A outer s H E hr => ⟨_, (ss_cons (s_if (ta_not (ta_val (ea_callB (c_isi (ok := okY K) (fun C hC => (by have e : C = He.ga K "Ties" ∨ C = He.ga K "Rows" ∨ C = He.ga K "Lots" ∨ C = He.ga K "Seats" := okL_or hC (c.ck 1 rfl); rcases e with e | e | e | e  <;> (subst e; first | exact isi_ok (c.ck 2 rfl) | exact isi_ok (c.ck 3 rfl) | exact isi_ok (c.ck 4 rfl) | exact isi_ok (c.ck 5 rfl))))) (He.free_ok hX hG (c.ck 6 rfl)) (ar_cons (ea_v 0) (ar_cons (ea_bty (He.free_ok hX hG (c.ck 8 rfl))) ar_nil))))) (ss_one s_never) ss_nil)
 (ss_one (s_if (ta_cmp o_gt (ea_callB c_len (He.free_ok hX hG (c.ck 10 rfl)) (ar_cons (ea_v 0) ar_nil)) (ea_gint (He.int_ok hX hG (c.ck 26 rfl)))) (ss_one s_never) ss_nil)))⟩) (law_want_list K)
theorem g_want_list : GF P w K mg base "want_list" 1 ["things"] (sp_want_list K) := by
  obtain ⟨fd, F⟩ := c.df 16 (d := d16) rfl
  exact ⟨_, fd, He.glo_ok hX hG (c.ck 92 rfl), F.kp, (F.bindsN fun _ _ _ _ _ _ us hl => match us, hl with | [_], _ => rfl), fn_want_list hX hG c F⟩
theorem fn_want_each {fd : FuncData} (F : FunD K (d17).name (d17).qual (d17).params (d17).body (d17).scope ((d17).dvs K) ((d17).kws K) (He.fAd K (d17).at_) fd) : FnA P w K mg base 1 (He.fAd K (d17).at_) fd ["rights"] (sp_want_each K) :=
  fnA_of (a := a_want_each K) F sc_want_each (len_want_each K) (fun cdv A outer s H E hr => ⟨_, (ss_one (s_if (ta_not (ta_val (ea_callB (c_all rfl) (He.free_ok hX hG (c.ck 9 rfl)) (ar_cons (ea_v 0) ar_nil)))) (ss_one s_never) ss_nil))⟩) (law_want_each K)
theorem g_want_each : GF P w K mg base "want_each" 1 ["rights"] (sp_want_each K) := by
  obtain ⟨fd, F⟩ := c.df 17 (d := d17) rfl
  exact ⟨_, fd, He.glo_ok hX hG (c.ck 93 rfl), F.kp, (F.bindsN fun _ _ _ _ _ _ us hl => match us, hl with | [_], _ => rfl), fn_want_each hX hG c F⟩
theorem fn_out_of {fd : FuncData} (F : FunD K (d18).name (d18).qual (d18).params (d18).body (d18).scope ((d18).dvs K) ((d18).kws K) (He.fAd K (d18).at_) fd) : FnA P w K mg base 2 (He.fAd K (d18).at_) fd ["yard", "heap"] (sp_out_of K) :=
  fnA_of (a := a_out_of K) F sc_out_of (len_out_of K) (fun cdv A outer s H E hr => ⟨_, (ss_one (s_ret (ea_call (g_but hX hG c) (hr.mono (by decide)) takesT (ar_cons (ea_meth0 (ok := okY K) (ea_v 0) (fun C hC => (by have e : C = He.ga K "Ties" ∨ C = He.ga K "Rows" ∨ C = He.ga K "Lots" ∨ C = He.ga K "Seats" := okL_or hC (c.ck 1 rfl); rcases e with e | e | e | e  <;> (subst e; first | exact m_Ties_things hX hG c | exact m_Rows_things hX hG c | exact m_Lots_things hX hG c | exact m_Seats_things hX hG c))) (hr.mono (by decide)) takesT) (ar_cons (ea_v 1) ar_nil)))))⟩) (law_out_of K)
theorem g_out_of : GF P w K mg base "out_of" 2 ["yard", "heap"] (sp_out_of K) := by
  obtain ⟨fd, F⟩ := c.df 18 (d := d18) rfl
  exact ⟨_, fd, He.glo_ok hX hG (c.ck 94 rfl), F.kp, (F.bindsN fun _ _ _ _ _ _ us hl => match us, hl with | [_, _], _ => rfl), fn_out_of hX hG c F⟩
theorem fn_is_ring {fd : FuncData} (F : FunD K (d19).name (d19).qual (d19).params (d19).body (d19).scope ((d19).dvs K) ((d19).kws K) (He.fAd K (d19).at_) fd) : FnA P w K mg base 16 (He.fAd K (d19).at_) fd ["yard", "heap"] (sp_is_ring K) :=
  fnA_of (a := a_is_ring K) F sc_is_ring (len_is_ring K) (fun cdv A outer s H E hr => ⟨_, (ss_cons (s_expr (ea_call (g_want_heap hX hG c) (hr.mono (by decide)) takesT (ar_cons (ea_v 0) (ar_cons (ea_v 1) ar_nil))))
 (ss_cons (s_set (i := 2) (ea_op o_sub (ea_callB c_len (He.free_ok hX hG (c.ck 10 rfl)) (ar_cons (ea_v 1) ar_nil)) ea_int) sc_is_ring.nd)
 (ss_cons (s_if (WstA.t (wa_or (ta_cmp (o_eq ⟨_, hr⟩) (ea_v 1) (ea_lst ar_nil)) (wa_or1 (ta_cmp (o_ne ⟨_, hr⟩) (ea_methF (ok := okY K) (sp := fam_worth_of K) (ea_v 0) (fun C hC => (by have e : C = He.ga K "Ties" ∨ C = He.ga K "Rows" ∨ C = He.ga K "Lots" ∨ C = He.ga K "Seats" := okL_or hC (c.ck 1 rfl); rcases e with e | e | e | e  <;> (subst e; first | exact mf_Ties_worth_of hX hG c | exact mf_Rows_worth_of hX hG c | exact mf_Lots_worth_of hX hG c | exact mf_Seats_worth_of hX hG c))) (hr.mono (by decide)) takesT (ar_cons (ea_v 1) ar_nil)) (ea_v 2))))) (ss_one (s_ret ea_bl)) ss_nil)
 (ss_one (s_ret (ea_callB (c_all rfl) (He.free_ok hX hG (c.ck 9 rfl)) (ar_cons (ea_lc rfl sc_is_ring.nd (i_seq (ea_v 1)) (own := [("thing", 3)]) (blkOk_by (N := ["yard", "heap", "free", "thing"]) (sc := defScope (top 17)) (by decide +kernel)) (wgt_name (by decide)) (fun s H C cl fp => (g_name (i := 3) sc_is_ring.nd)) (fun s H C cl fp => ⟨_, ts_nil⟩) (fun s H C cl fp => ⟨_, (ea_cmp (o_eq ⟨_, hr⟩) (ea_methF (ok := okY K) (sp := fam_worth_of K) (ea_v 0) (fun C hC => (by have e : C = He.ga K "Ties" ∨ C = He.ga K "Rows" ∨ C = He.ga K "Lots" ∨ C = He.ga K "Seats" := okL_or hC (c.ck 1 rfl); rcases e with e | e | e | e  <;> (subst e; first | exact mf_Ties_worth_of hX hG c | exact mf_Rows_worth_of hX hG c | exact mf_Lots_worth_of hX hG c | exact mf_Seats_worth_of hX hG c))) (hr.mono (by decide)) tk0 (ar_cons (ea_call (g_but hX hG c) (hr.mono (by decide)) tk0 (ar_cons (ea_v 1) (ar_cons (ea_lst (ar_cons (ea_v 3) ar_nil)) ar_nil))) ar_nil)) (ea_v 2))⟩) (s, H, 0, [], [])) ar_nil)))))))⟩) (law_is_ring K)
theorem g_is_ring : GF P w K mg base "is_ring" 16 ["yard", "heap"] (sp_is_ring K) := by
  obtain ⟨fd, F⟩ := c.df 19 (d := d19) rfl
  exact ⟨_, fd, He.glo_ok hX hG (c.ck 95 rfl), F.kp, (F.bindsN fun _ _ _ _ _ _ us hl => match us, hl with | [_, _], _ => rfl), fn_is_ring hX hG c F⟩
theorem fn_is_fence {fd : FuncData} (F : FunD K (d20).name (d20).qual (d20).params (d20).body (d20).scope ((d20).dvs K) ((d20).kws K) (He.fAd K (d20).at_) fd) : FnA P w K mg base 17 (He.fAd K (d20).at_) fd ["yard", "heap"] (sp_is_fence K) :=
  fnA_of (a := a_is_fence K) F sc_is_fence (len_is_fence K) (fun cdv A outer s H E hr => ⟨_, (ss_cons (s_expr (ea_call (g_want_heap hX hG c) (hr.mono (by decide)) takesT (ar_cons (ea_v 0) (ar_cons (ea_v 1) ar_nil))))
 (ss_one (s_ret (ea_cmp o_lt (ea_methF (ok := okY K) (sp := fam_worth_of K) (ea_v 0) (fun C hC => (by have e : C = He.ga K "Ties" ∨ C = He.ga K "Rows" ∨ C = He.ga K "Lots" ∨ C = He.ga K "Seats" := okL_or hC (c.ck 1 rfl); rcases e with e | e | e | e  <;> (subst e; first | exact mf_Ties_worth_of hX hG c | exact mf_Rows_worth_of hX hG c | exact mf_Lots_worth_of hX hG c | exact mf_Seats_worth_of hX hG c))) (hr.mono (by decide)) takesT (ar_cons (ea_call (g_out_of hX hG c) (hr.mono (by decide)) takesT (ar_cons (ea_v 0) (ar_cons (ea_v 1) ar_nil))) ar_nil)) (ea_meth0 (ok := okY K) (ea_v 0) (fun C hC => (by have e : C = He.ga K "Ties" ∨ C = He.ga K "Rows" ∨ C = He.ga K "Lots" ∨ C = He.ga K "Seats" := okL_or hC (c.ck 1 rfl); rcases e with e | e | e | e  <;> (subst e; first | exact m_Ties_whole hX hG c | exact m_Rows_whole hX hG c | exact m_Lots_whole hX hG c | exact m_Seats_whole hX hG c))) (hr.mono (by decide)) takesT)))))⟩) (law_is_fence K)
theorem g_is_fence : GF P w K mg base "is_fence" 17 ["yard", "heap"] (sp_is_fence K) := by
  obtain ⟨fd, F⟩ := c.df 20 (d := d20) rfl
  exact ⟨_, fd, He.glo_ok hX hG (c.ck 96 rfl), F.kp, (F.bindsN fun _ _ _ _ _ _ us hl => match us, hl with | [_, _], _ => rfl), fn_is_fence hX hG c F⟩
theorem fn_is_least_fence {fd : FuncData} (F : FunD K (d21).name (d21).qual (d21).params (d21).body (d21).scope ((d21).dvs K) ((d21).kws K) (He.fAd K (d21).at_) fd) : FnA P w K mg base 18 (He.fAd K (d21).at_) fd ["yard", "heap"] (sp_is_least_fence K) :=
  fnA_of (a := a_is_least_fence K) F sc_is_least_fence (len_is_least_fence K) (fun cdv A outer s H E hr => ⟨_, (ss_cons (s_if (ta_not (ta_val (ea_call (g_is_fence hX hG c) (hr.mono (by decide)) takesT (ar_cons (ea_v 0) (ar_cons (ea_v 1) ar_nil))))) (ss_one (s_ret ea_bl)) ss_nil)
 (ss_cons (s_set (i := 2) (ea_call (g_out_of hX hG c) (hr.mono (by decide)) takesT (ar_cons (ea_v 0) (ar_cons (ea_v 1) ar_nil))) sc_is_least_fence.nd)
 (ss_one (s_ret (ea_callB (c_all rfl) (He.free_ok hX hG (c.ck 9 rfl)) (ar_cons (ea_lc rfl sc_is_least_fence.nd (i_seq (ea_v 1)) (own := [("thing", 3)]) (blkOk_by (N := ["yard", "heap", "rest", "thing"]) (sc := defScope (top 19)) (by decide +kernel)) (wgt_name (by decide)) (fun s H C cl fp => (g_name (i := 3) sc_is_least_fence.nd)) (fun s H C cl fp => ⟨_, ts_nil⟩) (fun s H C cl fp => ⟨_, (ea_cmp (o_eq ⟨_, hr⟩) (ea_methF (ok := okY K) (sp := fam_worth_of K) (ea_v 0) (fun C hC => (by have e : C = He.ga K "Ties" ∨ C = He.ga K "Rows" ∨ C = He.ga K "Lots" ∨ C = He.ga K "Seats" := okL_or hC (c.ck 1 rfl); rcases e with e | e | e | e  <;> (subst e; first | exact mf_Ties_worth_of hX hG c | exact mf_Rows_worth_of hX hG c | exact mf_Lots_worth_of hX hG c | exact mf_Seats_worth_of hX hG c))) (hr.mono (by decide)) tk0 (ar_cons (ea_call (g_joined hX hG c) (hr.mono (by decide)) tk0 (ar_cons (ea_v 2) (ar_cons (ea_lst (ar_cons (ea_v 3) ar_nil)) ar_nil))) ar_nil)) (ea_meth0 (ok := okY K) (ea_v 0) (fun C hC => (by have e : C = He.ga K "Ties" ∨ C = He.ga K "Rows" ∨ C = He.ga K "Lots" ∨ C = He.ga K "Seats" := okL_or hC (c.ck 1 rfl); rcases e with e | e | e | e  <;> (subst e; first | exact m_Ties_whole hX hG c | exact m_Rows_whole hX hG c | exact m_Lots_whole hX hG c | exact m_Seats_whole hX hG c))) (hr.mono (by decide)) tk0))⟩) (s, H, 0, [], [])) ar_nil))))))⟩) (law_is_least_fence K)
theorem g_is_least_fence : GF P w K mg base "is_least_fence" 18 ["yard", "heap"] (sp_is_least_fence K) := by
  obtain ⟨fd, F⟩ := c.df 21 (d := d21) rfl
  exact ⟨_, fd, He.glo_ok hX hG (c.ck 97 rfl), F.kp, (F.bindsN fun _ _ _ _ _ _ us hl => match us, hl with | [_, _], _ => rfl), fn_is_least_fence hX hG c F⟩
theorem fn_are_tops {fd : FuncData} (F : FunD K (d22).name (d22).qual (d22).params (d22).body (d22).scope ((d22).dvs K) ((d22).kws K) (He.fAd K (d22).at_) fd) : FnA P w K mg base 2 (He.fAd K (d22).at_) fd ["tops"] (sp_are_tops K) :=
  fnA_of (a := a_are_tops K) F sc_are_tops (len_are_tops K) (fun cdv A outer s H E hr => ⟨_, (ss_cons (s_if (WstA.t (wa_or (ta_not (ta_val (ea_callB (c_isi (ok := okY K) (fun C hC => (by have e : C = He.ga K "Ties" ∨ C = He.ga K "Rows" ∨ C = He.ga K "Lots" ∨ C = He.ga K "Seats" := okL_or hC (c.ck 1 rfl); rcases e with e | e | e | e  <;> (subst e; first | exact isi_ok (c.ck 2 rfl) | exact isi_ok (c.ck 3 rfl) | exact isi_ok (c.ck 4 rfl) | exact isi_ok (c.ck 5 rfl))))) (He.free_ok hX hG (c.ck 6 rfl)) (ar_cons (ea_v 0) (ar_cons (ea_bty (He.free_ok hX hG (c.ck 8 rfl))) ar_nil))))) (wa_or1 (ta_cmp o_gt (ea_callB c_len (He.free_ok hX hG (c.ck 10 rfl)) (ar_cons (ea_v 0) ar_nil)) (ea_gint (He.int_ok hX hG (c.ck 27 rfl))))))) (ss_one (s_ret ea_bl)) ss_nil)
 (ss_one (s_ret (ea_callB (c_all rfl) (He.free_ok hX hG (c.ck 9 rfl)) (ar_cons (ea_lc rfl sc_are_tops.nd (i_seq (ea_v 0)) (own := [("top", 1)]) (blkOk_by (N := ["tops", "top"]) (sc := defScope (top 22)) (by decide +kernel)) (wgt_name (by decide)) (fun s H C cl fp => (g_name (i := 1) sc_are_tops.nd)) (fun s H C cl fp => ⟨_, ts_nil⟩) (fun s H C cl fp => ⟨_, (ea_call (g_is_number hX hG c) (hr.mono (by decide)) tk0 (ar_cons (ea_v 1) (ar_cons (ea_op o_add (ea_gint (He.int_ok hX hG (c.ck 26 rfl))) ea_int) ar_nil)))⟩) (s, H, 0, [], [])) ar_nil)))))⟩) (law_are_tops K)
theorem g_are_tops : GF P w K mg base "are_tops" 2 ["tops"] (sp_are_tops K) := by
  obtain ⟨fd, F⟩ := c.df 22 (d := d22) rfl
  exact ⟨_, fd, He.glo_ok hX hG (c.ck 98 rfl), F.kp, (F.bindsN fun _ _ _ _ _ _ us hl => match us, hl with | [_], _ => rfl), fn_are_tops hX hG c F⟩
theorem fn_Lots_init {fd : FuncData} (F : FunD K (d23).name (d23).qual (d23).params (d23).body (d23).scope ((d23).dvs K) ((d23).kws K) (He.fAd K (d23).at_) fd) : FnA P w K mg base 3 (He.fAd K (d23).at_) fd ["self", "tops", "lots"] (sp_Lots_init K) :=
  fnA_of (a := a_Lots_init K) F sc_Lots_init (len_Lots_init K) (fun cdv A outer s H E hr => ⟨_, (ss_cons (s_if (ta_not (ta_val (ea_call (g_are_tops hX hG c) (hr.mono (by decide)) takesT (ar_cons (ea_v 1) ar_nil)))) (ss_one s_never) ss_nil)
 (ss_cons (s_expr (ea_call (g_want_list hX hG c) (hr.mono (by decide)) takesT (ar_cons (ea_v 2) ar_nil)))
 (ss_cons (s_expr (ea_call (g_want_each hX hG c) (hr.mono (by decide)) takesT (ar_cons (ea_lc rfl sc_Lots_init.nd (i_seq (ea_v 2)) (own := [("lot", 3)]) (blkOk_by (N := ["self", "tops", "lots", "lot"]) (sc := defScope (inClass (top 23) 0)) (by decide +kernel)) (wgt_name (by decide)) (fun s H C cl fp => (g_name (i := 3) sc_Lots_init.nd)) (fun s H C cl fp => ⟨_, ts_nil⟩) (fun s H C cl fp => ⟨_, (ea_call (g_is_number hX hG c) (hr.mono (by decide)) tk0 (ar_cons (ea_v 3) (ar_cons (ea_callB c_len (He.free_ok hX hG (c.ck 10 rfl)) (ar_cons (ea_v 1) ar_nil)) ar_nil)))⟩) (s, H, 0, [], [])) ar_nil)))
 (ss_cons (s_expr (ea_clsm (cm_Yard_init hX hG c) (hr.mono (by decide)) takesT (ar_cons (ea_v 0) (ar_cons (ea_callB c_len (He.free_ok hX hG (c.ck 10 rfl)) (ar_cons (ea_v 2) ar_nil)) ar_nil))))
 (ss_cons (s_fld (ok := okY K) (ea_callTy c_list (He.free_ok hX hG (c.ck 8 rfl)) (ar_cons (ea_v 1) ar_nil)) (ea_v 0) (fun C hC => (by have e : C = He.ga K "Ties" ∨ C = He.ga K "Rows" ∨ C = He.ga K "Lots" ∨ C = He.ga K "Seats" := okL_or hC (c.ck 1 rfl); rcases e with e | e | e | e  <;> (subst e; first | exact fd_ok (c.ck 14 rfl) (c.ck 28 rfl) | exact fd_ok (c.ck 16 rfl) (c.ck 29 rfl) | exact fd_ok (c.ck 18 rfl) (c.ck 30 rfl) | exact fd_ok (c.ck 20 rfl) (c.ck 31 rfl)))))
 (ss_one (s_fld (ok := okY K) (ea_callTy c_list (He.free_ok hX hG (c.ck 8 rfl)) (ar_cons (ea_v 2) ar_nil)) (ea_v 0) (fun C hC => (by have e : C = He.ga K "Ties" ∨ C = He.ga K "Rows" ∨ C = He.ga K "Lots" ∨ C = He.ga K "Seats" := okL_or hC (c.ck 1 rfl); rcases e with e | e | e | e  <;> (subst e; first | exact fd_ok (c.ck 14 rfl) (c.ck 32 rfl) | exact fd_ok (c.ck 16 rfl) (c.ck 33 rfl) | exact fd_ok (c.ck 18 rfl) (c.ck 34 rfl) | exact fd_ok (c.ck 20 rfl) (c.ck 35 rfl)))))))))))⟩) (law_Lots_init K)
theorem g_Lots : CF P w K mg base "Lots" (He.ga K "Lots") 3 ["self", "tops", "lots"] (sp_Lots_init K) := by
  obtain ⟨fd, F⟩ := c.df 23 (d := d23) rfl
  exact ⟨_, fd, He.glo_ok hX hG (c.ck 100 rfl), mk_ok (c.ck 99 rfl), (F.bindsN fun _ _ _ _ _ _ us hl => match us, hl with | [_, _, _], _ => rfl), fn_Lots_init hX hG c F⟩
theorem fn_Rows_init {fd : FuncData} (F : FunD K (d30).name (d30).qual (d30).params (d30).body (d30).scope ((d30).dvs K) ((d30).kws K) (He.fAd K (d30).at_) fd) : FnA P w K mg base 2 (He.fAd K (d30).at_) fd ["self", "rows"] (sp_Rows_init K) :=
  fnA_of (a := a_Rows_init K) F sc_Rows_init (len_Rows_init K) (fun cdv A outer s H E hr => ⟨_, (ss_cons (s_expr (ea_call (g_want_list hX hG c) (hr.mono (by decide)) takesT (ar_cons (ea_v 1) ar_nil)))
 (ss_cons (s_expr (ea_call (g_want_each hX hG c) (hr.mono (by decide)) takesT (ar_cons (ea_lc rfl sc_Rows_init.nd (i_seq (ea_v 1)) (own := [("row", 2)]) (blkOk_by (N := ["self", "rows", "row"]) (sc := defScope (inClass (top 26) 0)) (by decide +kernel)) (wgt_name (by decide)) (fun s H C cl fp => (g_name (i := 2) sc_Rows_init.nd)) (fun s H C cl fp => ⟨_, ts_nil⟩) (fun s H C cl fp => ⟨_, (ea_call (g_is_number hX hG c) (hr.mono (by decide)) tk0 (ar_cons (ea_v 2) (ar_cons (ea_gint (He.int_ok hX hG (c.ck 39 rfl))) ar_nil)))⟩) (s, H, 0, [], [])) ar_nil)))
 (ss_cons (s_expr (ea_clsm (cm_Yard_init hX hG c) (hr.mono (by decide)) takesT (ar_cons (ea_v 0) (ar_cons (ea_callB c_len (He.free_ok hX hG (c.ck 10 rfl)) (ar_cons (ea_v 1) ar_nil)) ar_nil))))
 (ss_one (s_fld (ok := okY K) (ea_callTy c_list (He.free_ok hX hG (c.ck 8 rfl)) (ar_cons (ea_v 1) ar_nil)) (ea_v 0) (fun C hC => (by have e : C = He.ga K "Ties" ∨ C = He.ga K "Rows" ∨ C = He.ga K "Lots" ∨ C = He.ga K "Seats" := okL_or hC (c.ck 1 rfl); rcases e with e | e | e | e  <;> (subst e; first | exact fd_ok (c.ck 14 rfl) (c.ck 40 rfl) | exact fd_ok (c.ck 16 rfl) (c.ck 41 rfl) | exact fd_ok (c.ck 18 rfl) (c.ck 42 rfl) | exact fd_ok (c.ck 20 rfl) (c.ck 43 rfl)))))))))⟩) (law_Rows_init K)
theorem g_Rows : CF P w K mg base "Rows" (He.ga K "Rows") 2 ["self", "rows"] (sp_Rows_init K) := by
  obtain ⟨fd, F⟩ := c.df 30 (d := d30) rfl
  exact ⟨_, fd, He.glo_ok hX hG (c.ck 102 rfl), mk_ok (c.ck 101 rfl), (F.bindsN fun _ _ _ _ _ _ us hl => match us, hl with | [_, _], _ => rfl), fn_Rows_init hX hG c F⟩
theorem fn_Seats_init {fd : FuncData} (F : FunD K (d38).name (d38).qual (d38).params (d38).body (d38).scope ((d38).dvs K) ((d38).kws K) (He.fAd K (d38).at_) fd) : FnA P w K mg base 3 (He.fAd K (d38).at_) fd ["self", "seats", "rows"] (sp_Seats_init K) :=
  fnA_of (a := a_Seats_init K) F sc_Seats_init (len_Seats_init K) (fun cdv A outer s H E hr => ⟨_, (ss_cons (s_if (ta_not (ta_val (ea_call (g_is_number hX hG c) (hr.mono (by decide)) takesT (ar_cons (ea_v 1) (ar_cons (ea_op o_add (ea_gint (He.int_ok hX hG (c.ck 44 rfl))) ea_int) ar_nil))))) (ss_one s_never) ss_nil)
 (ss_cons (s_expr (ea_call (g_want_list hX hG c) (hr.mono (by decide)) takesT (ar_cons (ea_v 2) ar_nil)))
 (ss_cons (s_expr (ea_call (g_want_each hX hG c) (hr.mono (by decide)) takesT (ar_cons (ea_lc rfl sc_Seats_init.nd (i_seq (ea_v 2)) (own := [("row", 3)]) (blkOk_by (N := ["self", "seats", "rows", "row"]) (sc := defScope (inClass (top 31) 0)) (by decide +kernel)) (wgt_name (by decide)) (fun s H C cl fp => (g_name (i := 3) sc_Seats_init.nd)) (fun s H C cl fp => ⟨_, ts_nil⟩) (fun s H C cl fp => ⟨_, (ea_call (g_is_heap hX hG c) (hr.mono (by decide)) tk0 (ar_cons (ea_v 3) (ar_cons (ea_v 1) ar_nil)))⟩) (s, H, 0, [], [])) ar_nil)))
 (ss_cons (s_expr (ea_clsm (cm_Yard_init hX hG c) (hr.mono (by decide)) takesT (ar_cons (ea_v 0) (ar_cons (ea_callB c_len (He.free_ok hX hG (c.ck 10 rfl)) (ar_cons (ea_v 2) ar_nil)) ar_nil))))
 (ss_cons (s_fld (ok := okY K) (ea_v 1) (ea_v 0) (fun C hC => (by have e : C = He.ga K "Ties" ∨ C = He.ga K "Rows" ∨ C = He.ga K "Lots" ∨ C = He.ga K "Seats" := okL_or hC (c.ck 1 rfl); rcases e with e | e | e | e  <;> (subst e; first | exact fd_ok (c.ck 14 rfl) (c.ck 45 rfl) | exact fd_ok (c.ck 16 rfl) (c.ck 46 rfl) | exact fd_ok (c.ck 18 rfl) (c.ck 47 rfl) | exact fd_ok (c.ck 20 rfl) (c.ck 48 rfl)))))
 (ss_one (s_fld (ok := okY K) (ea_lc rfl sc_Seats_init.nd (i_seq (ea_v 2)) (own := [("row", 3)]) (blkOk_by (N := ["self", "seats", "rows", "row"]) (sc := defScope (inClass (top 31) 0)) (by decide +kernel)) (wgt_name (by decide)) (fun s H C cl fp => (g_name (i := 3) sc_Seats_init.nd)) (fun s H C cl fp => ⟨_, ts_nil⟩) (fun s H C cl fp => ⟨_, (ea_callTy c_list (He.free_ok hX hG (c.ck 8 rfl)) (ar_cons (ea_v 3) ar_nil))⟩) (s, H, 0, [], [])) (ea_v 0) (fun C hC => (by have e : C = He.ga K "Ties" ∨ C = He.ga K "Rows" ∨ C = He.ga K "Lots" ∨ C = He.ga K "Seats" := okL_or hC (c.ck 1 rfl); rcases e with e | e | e | e  <;> (subst e; first | exact fd_ok (c.ck 14 rfl) (c.ck 40 rfl) | exact fd_ok (c.ck 16 rfl) (c.ck 41 rfl) | exact fd_ok (c.ck 18 rfl) (c.ck 42 rfl) | exact fd_ok (c.ck 20 rfl) (c.ck 43 rfl)))))))))))⟩) (law_Seats_init K)
theorem g_Seats : CF P w K mg base "Seats" (He.ga K "Seats") 3 ["self", "seats", "rows"] (sp_Seats_init K) := by
  obtain ⟨fd, F⟩ := c.df 38 (d := d38) rfl
  exact ⟨_, fd, He.glo_ok hX hG (c.ck 104 rfl), mk_ok (c.ck 103 rfl), (F.bindsN fun _ _ _ _ _ _ us hl => match us, hl with | [_, _, _], _ => rfl), fn_Seats_init hX hG c F⟩
theorem fn_is_pair {fd : FuncData} (F : FunD K (d45).name (d45).qual (d45).params (d45).body (d45).scope ((d45).dvs K) ((d45).kws K) (He.fAd K (d45).at_) fd) : FnA P w K mg base 2 (He.fAd K (d45).at_) fd ["thing", "places"] (sp_is_pair K) :=
  fnA_of (a := a_is_pair K) F sc_is_pair (len_is_pair K) (fun cdv A outer s H E hr => ⟨_, (ss_one (s_ret (ea_and (ea_callB (c_isi (ok := okY K) (fun C hC => (by have e : C = He.ga K "Ties" ∨ C = He.ga K "Rows" ∨ C = He.ga K "Lots" ∨ C = He.ga K "Seats" := okL_or hC (c.ck 1 rfl); rcases e with e | e | e | e  <;> (subst e; first | exact isi_ok (c.ck 2 rfl) | exact isi_ok (c.ck 3 rfl) | exact isi_ok (c.ck 4 rfl) | exact isi_ok (c.ck 5 rfl))))) (He.free_ok hX hG (c.ck 6 rfl)) (ar_cons (ea_v 0) (ar_cons (ea_bty (He.free_ok hX hG (c.ck 49 rfl))) ar_nil))) (ea_and (ea_cmp (o_eq ⟨_, hr⟩) (ea_callB c_len (He.free_ok hX hG (c.ck 10 rfl)) (ar_cons (ea_v 0) ar_nil)) ea_int) (ea_one (ea_callB (c_all rfl) (He.free_ok hX hG (c.ck 9 rfl)) (ar_cons (ea_lc rfl sc_is_pair.nd (i_seq (ea_v 0)) (own := [("place", 2)]) (blkOk_by (N := ["thing", "places", "place"]) (sc := defScope (top 34)) (by decide +kernel)) (wgt_name (by decide)) (fun s H C cl fp => (g_name (i := 2) sc_is_pair.nd)) (fun s H C cl fp => ⟨_, ts_nil⟩) (fun s H C cl fp => ⟨_, (ea_call (g_is_number hX hG c) (hr.mono (by decide)) tk0 (ar_cons (ea_v 2) (ar_cons (ea_v 1) ar_nil)))⟩) (s, H, 0, [], [])) ar_nil)))))))⟩) (law_is_pair K)
theorem g_is_pair : GF P w K mg base "is_pair" 2 ["thing", "places"] (sp_is_pair K) := by
  obtain ⟨fd, F⟩ := c.df 45 (d := d45) rfl
  exact ⟨_, fd, He.glo_ok hX hG (c.ck 105 rfl), F.kp, (F.bindsN fun _ _ _ _ _ _ us hl => match us, hl with | [_, _], _ => rfl), fn_is_pair hX hG c F⟩
theorem fn_Ties_init {fd : FuncData} (F : FunD K (d47).name (d47).qual (d47).params (d47).body (d47).scope ((d47).dvs K) ((d47).kws K) (He.fAd K (d47).at_) fd) : FnA P w K mg base 3 (He.fAd K (d47).at_) fd ["self", "places", "pairs"] (sp_Ties_init K) :=
  fnA_of (a := a_Ties_init K) F sc_Ties_init (len_Ties_init K) (fun cdv A outer s H E hr => ⟨_, (ss_cons (s_if (WstA.t (wa_or (ta_not (ta_val (ea_call (g_is_number hX hG c) (hr.mono (by decide)) takesT (ar_cons (ea_v 1) (ar_cons (ea_op o_add (ea_gint (He.int_ok hX hG (c.ck 50 rfl))) ea_int) ar_nil))))) (wa_or1 (ta_cmp (o_eq ⟨_, hr⟩) (ea_v 1) ea_int)))) (ss_one s_never) ss_nil)
 (ss_cons (s_expr (ea_call (g_want_list hX hG c) (hr.mono (by decide)) takesT (ar_cons (ea_v 2) ar_nil)))
 (ss_cons (s_expr (ea_call (g_want_each hX hG c) (hr.mono (by decide)) takesT (ar_cons (ea_lc rfl sc_Ties_init.nd (i_seq (ea_v 2)) (own := [("pair", 3)]) (blkOk_by (N := ["self", "places", "pairs", "pair"]) (sc := defScope (inClass (top 36) 0)) (by decide +kernel)) (wgt_name (by decide)) (fun s H C cl fp => (g_name (i := 3) sc_Ties_init.nd)) (fun s H C cl fp => ⟨_, ts_nil⟩) (fun s H C cl fp => ⟨_, (ea_call (g_is_pair hX hG c) (hr.mono (by decide)) tk0 (ar_cons (ea_v 3) (ar_cons (ea_v 1) ar_nil)))⟩) (s, H, 0, [], [])) ar_nil)))
 (ss_cons (s_expr (ea_clsm (cm_Yard_init hX hG c) (hr.mono (by decide)) takesT (ar_cons (ea_v 0) (ar_cons (ea_callB c_len (He.free_ok hX hG (c.ck 10 rfl)) (ar_cons (ea_v 2) ar_nil)) ar_nil))))
 (ss_cons (s_fld (ok := okY K) (ea_v 1) (ea_v 0) (fun C hC => (by have e : C = He.ga K "Ties" ∨ C = He.ga K "Rows" ∨ C = He.ga K "Lots" ∨ C = He.ga K "Seats" := okL_or hC (c.ck 1 rfl); rcases e with e | e | e | e  <;> (subst e; first | exact fd_ok (c.ck 14 rfl) (c.ck 51 rfl) | exact fd_ok (c.ck 16 rfl) (c.ck 52 rfl) | exact fd_ok (c.ck 18 rfl) (c.ck 53 rfl) | exact fd_ok (c.ck 20 rfl) (c.ck 54 rfl)))))
 (ss_one (s_fld (ok := okY K) (ea_callTy c_list (He.free_ok hX hG (c.ck 8 rfl)) (ar_cons (ea_v 2) ar_nil)) (ea_v 0) (fun C hC => (by have e : C = He.ga K "Ties" ∨ C = He.ga K "Rows" ∨ C = He.ga K "Lots" ∨ C = He.ga K "Seats" := okL_or hC (c.ck 1 rfl); rcases e with e | e | e | e  <;> (subst e; first | exact fd_ok (c.ck 14 rfl) (c.ck 55 rfl) | exact fd_ok (c.ck 16 rfl) (c.ck 56 rfl) | exact fd_ok (c.ck 18 rfl) (c.ck 57 rfl) | exact fd_ok (c.ck 20 rfl) (c.ck 58 rfl)))))))))))⟩) (law_Ties_init K)
theorem g_Ties : CF P w K mg base "Ties" (He.ga K "Ties") 3 ["self", "places", "pairs"] (sp_Ties_init K) := by
  obtain ⟨fd, F⟩ := c.df 47 (d := d47) rfl
  exact ⟨_, fd, He.glo_ok hX hG (c.ck 107 rfl), mk_ok (c.ck 106 rfl), (F.bindsN fun _ _ _ _ _ _ us hl => match us, hl with | [_, _, _], _ => rfl), fn_Ties_init hX hG c F⟩
theorem fn_pot {fd : FuncData} (F : FunD K (d54).name (d54).qual (d54).params (d54).body (d54).scope ((d54).dvs K) ((d54).kws K) (He.fAd K (d54).at_) fd) : FnA P w K mg base 1 (He.fAd K (d54).at_) fd ["_law_script", "_law_k"] (sp_pot K) :=
  fnA_of (a := a_pot K) F sc_pot (len_pot K) (fun cdv A outer s H E hr => ⟨_, (ss_cons (s_set (i := 2) ea_int sc_pot.nd)
 (ss_cons (s_if (ta_cmp o_lt (ea_v 1) (ea_callB c_len (He.free_ok hX hG (c.ck 10 rfl)) (ar_cons (ea_v 0) ar_nil))) (ss_one (s_set (i := 2) (ea_callB c_abs (He.free_ok hX hG (c.ck 59 rfl)) (ar_cons (ea_ix (ea_v 0) (ea_v 1)) ar_nil)) sc_pot.nd)) ss_nil)
 (ss_one (s_ret (ea_lst (ar_cons (ea_callB (c_max2 rfl) (He.free_ok hX hG (c.ck 60 rfl)) (ar_cons ea_int (ar_cons (ea_op o_sub (ea_v 2) (ea_op o_pow ea_int ea_int)) ar_nil))) (ar_cons (ea_op o_add (ea_op o_mod (ea_op o_pow (ea_op o_add (ea_op o_add (ea_op o_mod (ea_v 2) ea_int) (ea_op o_mul ea_int (ea_v 1))) ea_int) ea_int) ea_int) ea_int) ar_nil)))))))⟩) (law_pot K)
theorem g_pot : GF P w K mg base "_law_pot" 1 ["_law_script", "_law_k"] (sp_pot K) := by
  obtain ⟨fd, F⟩ := c.df 54 (d := d54) rfl
  exact ⟨_, fd, He.glo_ok hX hG (c.ck 108 rfl), F.kp, (F.bindsN fun _ _ _ _ _ _ us hl => match us, hl with | [_, _], _ => rfl), fn_pot hX hG c F⟩
theorem fn_take {fd : FuncData} (F : FunD K (d55).name (d55).qual (d55).params (d55).body (d55).scope ((d55).dvs K) ((d55).kws K) (He.fAd K (d55).at_) fd) : FnA P w K mg base 1 (He.fAd K (d55).at_) fd ["_law_pot_here", "_law_many"] (sp_take K) :=
  fnA_of (a := a_take K) F sc_take (len_take K) (fun cdv A outer s H E hr => ⟨_, (ss_cons (s_if (ta_cmp o_gt (ea_ix (ea_v 0) ea_int) ea_int) (ss_cons (s_asg (ea_callB c_divmod (He.free_ok hX hG (c.ck 61 rfl)) (ar_cons (ea_ix (ea_v 0) ea_int) (ar_cons (ea_v 1) ar_nil))) (g_tup (n := 2) rfl (gs_cons (g_sub (ea_v 0) ea_int) (gs_cons (g_name (i := 2) sc_take.nd) gs_nil)) wofAny))
 (ss_one (s_ret (ea_v 2)))) ss_nil)
 (ss_cons (s_asg (ea_op o_mod (ea_op o_add (ea_op o_mul (ea_ix (ea_v 0) ea_int) ea_int) ea_int) ea_int) (g_sub (ea_v 0) ea_int))
 (ss_one (s_ret (ea_op o_mod (ea_op o_fdiv (ea_op o_mod (ea_op o_mul (ea_ix (ea_v 0) ea_int) (ea_ix (ea_v 0) ea_int)) ea_int) ea_int) (ea_v 1))))))⟩) (law_take K)
theorem g_take : GF P w K mg base "_law_take" 1 ["_law_pot_here", "_law_many"] (sp_take K) := by
  obtain ⟨fd, F⟩ := c.df 55 (d := d55) rfl
  exact ⟨_, fd, He.glo_ok hX hG (c.ck 109 rfl), F.kp, (F.bindsN fun _ _ _ _ _ _ us hl => match us, hl with | [_, _], _ => rfl), fn_take hX hG c F⟩
theorem fn_shuffled {fd : FuncData} (F : FunD K (d57).name (d57).qual (d57).params (d57).body (d57).scope ((d57).dvs K) ((d57).kws K) (He.fAd K (d57).at_) fd) : FnA P w K mg base 2 (He.fAd K (d57).at_) fd ["_law_pot_here", "_law_some"] (sp_shuffled K) :=
  fnA_of (a := a_shuffled K) F sc_shuffled (len_shuffled K) (fun cdv A outer s H E hr => ⟨_, (ss_cons (s_set (i := 2) (ea_callTy c_list (He.free_ok hX hG (c.ck 8 rfl)) (ar_cons (ea_v 1) ar_nil)) sc_shuffled.nd)
 (ss_cons (s_set (i := 3) (ea_lst ar_nil) sc_shuffled.nd)
 (ss_cons (s_for passT rfl (i_range1 (He.free_ok hX hG (c.ck 13 rfl)) (ar_cons (ea_callB c_len (He.free_ok hX hG (c.ck 10 rfl)) (ar_cons (ea_v 1) ar_nil)) ar_nil)) (g_name (i := 4) sc_shuffled.nd) (ss_one (s_expr (ea_bm m_append PySem.F.slot_list_append PySem.F.type_list_append (ea_v 3) (ar_cons (ea_bm m_popAt PySem.F.slot_list_pop PySem.F.type_list_pop (ea_v 2) (ar_cons (ea_call (g_take hX hG c) (hr.mono (by decide)) takesT (ar_cons (ea_v 0) (ar_cons (ea_callB c_len (He.free_ok hX hG (c.ck 10 rfl)) (ar_cons (ea_v 2) ar_nil)) ar_nil))) ar_nil)) ar_nil)))))
 (ss_one (s_ret (ea_v 3))))))⟩) (law_shuffled K)
theorem g_shuffled : GF P w K mg base "_law_shuffled" 2 ["_law_pot_here", "_law_some"] (sp_shuffled K) := by
  obtain ⟨fd, F⟩ := c.df 57 (d := d57) rfl
  exact ⟨_, fd, He.glo_ok hX hG (c.ck 110 rfl), F.kp, (F.bindsN fun _ _ _ _ _ _ us hl => match us, hl with | [_, _], _ => rfl), fn_shuffled hX hG c F⟩
theorem fn_pairs {fd : FuncData} (F : FunD K (d58).name (d58).qual (d58).params (d58).body (d58).scope ((d58).dvs K) ((d58).kws K) (He.fAd K (d58).at_) fd) : FnA P w K mg base 2 (He.fAd K (d58).at_) fd ["_law_pot_here", "_law_places", "_law_many"] (sp_pairs K) :=
  fnA_of (a := a_pairs K) F sc_pairs (len_pairs K) (fun cdv A outer s H E hr => ⟨_, (ss_one (s_ret (ea_lc rfl sc_pairs.nd (i_range1 (He.free_ok hX hG (c.ck 13 rfl)) (ar_cons (ea_v 2) ar_nil)) (own := [("_law_k", 3)]) (blkOk_by (N := ["_law_pot_here", "_law_places", "_law_many", "_law_k"]) (sc := defScope (top 42)) (by decide +kernel)) (wgt_name (by decide)) (fun s H C cl fp => (g_name (i := 3) sc_pairs.nd)) (fun s H C cl fp => ⟨_, ts_nil⟩) (fun s H C cl fp => ⟨_, (ea_tup (ar_cons (ea_call (g_take hX hG c) (hr.mono (by decide)) tk0 (ar_cons (ea_v 0) (ar_cons (ea_v 1) ar_nil))) (ar_cons (ea_call (g_take hX hG c) (hr.mono (by decide)) tk0 (ar_cons (ea_v 0) (ar_cons (ea_v 1) ar_nil))) ar_nil)))⟩) (s, H, 0, [], []))))⟩) (law_pairs K)
theorem g_pairs : GF P w K mg base "_law_pairs" 2 ["_law_pot_here", "_law_places", "_law_many"] (sp_pairs K) := by
  obtain ⟨fd, F⟩ := c.df 58 (d := d58) rfl
  exact ⟨_, fd, He.glo_ok hX hG (c.ck 111 rfl), F.kp, (F.bindsN fun _ _ _ _ _ _ us hl => match us, hl with | [_, _, _], _ => rfl), fn_pairs hX hG c F⟩
theorem fn_seat_rows {fd : FuncData} (F : FunD K (d59).name (d59).qual (d59).params (d59).body (d59).scope ((d59).dvs K) ((d59).kws K) (He.fAd K (d59).at_) fd) : FnA P w K mg base 2 (He.fAd K (d59).at_) fd ["_law_pot_here", "_law_seats", "_law_many"] (sp_seat_rows K) :=
  fnA_of (a := a_seat_rows K) F sc_seat_rows (len_seat_rows K) (fun cdv A outer s H E hr => ⟨_, (ss_cons (s_set (i := 3) (ea_lst ar_nil) sc_seat_rows.nd)
 (ss_cons (s_for passT rfl (i_range1 (He.free_ok hX hG (c.ck 13 rfl)) (ar_cons (ea_v 2) ar_nil)) (g_name (i := 4) sc_seat_rows.nd) (ss_cons (s_setLc (i := 5) rfl sc_seat_rows.nd (i_range1 (He.free_ok hX hG (c.ck 13 rfl)) (ar_cons (ea_v 1) ar_nil)) (own := [("_law_seat", 6)]) (blkOk_by (N := ["_law_pot_here", "_law_seats", "_law_many", "_law_found", "_law_k", "_law_row", "_law_seat"]) (sc := defScope (top 43)) (by decide +kernel)) (wgt_name (by decide)) (fun s H C cl fp => (g_name (i := 6) sc_seat_rows.nd)) (fun s H C cl fp => ⟨_, (ts_one (ta_cmp (o_eq ⟨_, hr⟩) (ea_call (g_take hX hG c) (hr.mono (by decide)) tk0 (ar_cons (ea_v 0) (ar_cons ea_int ar_nil))) ea_int))⟩) (fun s H C cl fp => ⟨_, (ea_v 6)⟩) (s, H, 0, [], []))
 (ss_one (s_expr (ea_bm m_append PySem.F.slot_list_append PySem.F.type_list_append (ea_v 3) (ar_cons (ea_if (ta_cmp (o_eq ⟨_, hr⟩) (ea_call (g_take hX hG c) (hr.mono (by decide)) takesT (ar_cons (ea_v 0) (ar_cons ea_int ar_nil))) ea_int) (ea_revL (ea_v 5)) (ea_v 5)) ar_nil))))))
 (ss_one (s_ret (ea_v 3)))))⟩) (law_seat_rows K)
theorem g_seat_rows : GF P w K mg base "_law_seat_rows" 2 ["_law_pot_here", "_law_seats", "_law_many"] (sp_seat_rows K) := by
  obtain ⟨fd, F⟩ := c.df 59 (d := d59) rfl
  exact ⟨_, fd, He.glo_ok hX hG (c.ck 112 rfl), F.kp, (F.bindsN fun _ _ _ _ _ _ us hl => match us, hl with | [_, _, _], _ => rfl), fn_seat_rows hX hG c F⟩
theorem fn_with_alike {fd : FuncData} (F : FunD K (d60).name (d60).qual (d60).params (d60).body (d60).scope ((d60).dvs K) ((d60).kws K) (He.fAd K (d60).at_) fd) : FnA P w K mg base 2 (He.fAd K (d60).at_) fd ["_law_pot_here", "_law_rows"] (sp_with_alike K) :=
  fnA_of (a := a_with_alike K) F sc_with_alike (len_with_alike K) (fun cdv A outer s H E hr => ⟨_, (ss_cons (s_set (i := 2) (ea_callTy c_list (He.free_ok hX hG (c.ck 8 rfl)) (ar_cons (ea_v 1) ar_nil)) sc_with_alike.nd)
 (ss_cons (s_if (ta_cmp (o_eq ⟨_, hr⟩) (ea_call (g_take hX hG c) (hr.mono (by decide)) takesT (ar_cons (ea_v 0) (ar_cons ea_int ar_nil))) ea_int) (ss_one (s_for passT rfl (i_range2 (He.free_ok hX hG (c.ck 13 rfl)) (ar_cons ea_int (ar_cons (ea_callB c_len (He.free_ok hX hG (c.ck 10 rfl)) (ar_cons (ea_v 2) ar_nil)) ar_nil))) (g_name (i := 3) sc_with_alike.nd) (ss_one (s_if (ta_cmp (o_eq ⟨_, hr⟩) (ea_call (g_take hX hG c) (hr.mono (by decide)) takesT (ar_cons (ea_v 0) (ar_cons ea_int ar_nil))) ea_int) (ss_one (s_asg (ea_ix (ea_v 2) (ea_call (g_take hX hG c) (hr.mono (by decide)) takesT (ar_cons (ea_v 0) (ar_cons (ea_v 3) ar_nil)))) (g_sub (ea_v 2) (ea_v 3)))) ss_nil)))) ss_nil)
 (ss_one (s_ret (ea_v 2)))))⟩) (law_with_alike K)
theorem g_with_alike : GF P w K mg base "_law_with_alike" 2 ["_law_pot_here", "_law_rows"] (sp_with_alike K) := by
  obtain ⟨fd, F⟩ := c.df 60 (d := d60) rfl
  exact ⟨_, fd, He.glo_ok hX hG (c.ck 113 rfl), F.kp, (F.bindsN fun _ _ _ _ _ _ us hl => match us, hl with | [_, _], _ => rfl), fn_with_alike hX hG c F⟩
theorem fn_spec {fd : FuncData} (F : FunD K (d61).name (d61).qual (d61).params (d61).body (d61).scope ((d61).dvs K) ((d61).kws K) (He.fAd K (d61).at_) fd) : FnA P w K mg base 3 (He.fAd K (d61).at_) fd ["_law_pot_here", "_law_most"] (sp_spec K) :=
  fnA_of (a := a_spec K) F sc_spec (len_spec K) (fun cdv A outer s H E hr => ⟨_, (ss_cons (s_set (i := 2) (ea_ix (ea_lst (ar_cons ea_str (ar_cons ea_str (ar_cons ea_str (ar_cons ea_str ar_nil))))) (ea_call (g_take hX hG c) (hr.mono (by decide)) takesT (ar_cons (ea_v 0) (ar_cons ea_int ar_nil)))) sc_spec.nd)
 (ss_cons (s_set (i := 3) (ea_ix (ea_lst (ar_cons (ea_v 1) (ar_cons (ea_call (g_take hX hG c) (hr.mono (by decide)) takesT (ar_cons (ea_v 0) (ar_cons (ea_op o_add (ea_v 1) ea_int) ar_nil))) ar_nil))) (ea_call (g_take hX hG c) (hr.mono (by decide)) takesT (ar_cons (ea_v 0) (ar_cons ea_int ar_nil)))) sc_spec.nd)
 (ss_cons (s_if (ta_cmp (o_eq ⟨_, hr⟩) (ea_v 2) ea_str) (ss_cons (s_set (i := 4) (ea_op o_add ea_int (ea_call (g_take hX hG c) (hr.mono (by decide)) takesT (ar_cons (ea_v 0) (ar_cons (ea_ix (ea_lst (ar_cons ea_int (ar_cons ea_int ar_nil))) (ea_call (g_take hX hG c) (hr.mono (by decide)) takesT (ar_cons (ea_v 0) (ar_cons ea_int ar_nil)))) ar_nil)))) sc_spec.nd)
 (ss_one (s_ret (ea_tup (ar_cons (ea_v 2) (ar_cons (ea_v 4) (ar_cons (ea_call (g_with_alike hX hG c) (hr.mono (by decide)) takesT (ar_cons (ea_v 0) (ar_cons (ea_call (g_pairs hX hG c) (hr.mono (by decide)) takesT (ar_cons (ea_v 0) (ar_cons (ea_v 4) (ar_cons (ea_v 3) ar_nil)))) ar_nil))) ar_nil))))))) ss_nil)
 (ss_cons (s_if (ta_cmp (o_eq ⟨_, hr⟩) (ea_v 2) ea_str) (ss_cons (s_set (i := 5) (ea_ix (ea_lst (ar_cons ea_int (ar_cons ea_int (ar_cons ea_int ar_nil)))) (ea_call (g_take hX hG c) (hr.mono (by decide)) takesT (ar_cons (ea_v 0) (ar_cons ea_int ar_nil)))) sc_spec.nd)
 (ss_one (s_ret (ea_tup (ar_cons (ea_v 2) (ar_cons ea_int (ar_cons (ea_call (g_with_alike hX hG c) (hr.mono (by decide)) takesT (ar_cons (ea_v 0) (ar_cons (ea_lc rfl sc_spec.nd (i_range1 (He.free_ok hX hG (c.ck 13 rfl)) (ar_cons (ea_v 3) ar_nil)) (own := [("_law_k", 6)]) (blkOk_by (N := ["_law_pot_here", "_law_most", "_law_sort", "_law_many", "_law_places", "_law_wide", "_law_k", "_law_tops", "_law_seats"]) (sc := defScope (top 45)) (by decide +kernel)) (wgt_name (by decide)) (fun s H C cl fp => (g_name (i := 6) sc_spec.nd)) (fun s H C cl fp => ⟨_, ts_nil⟩) (fun s H C cl fp => ⟨_, (ea_call (g_take hX hG c) (hr.mono (by decide)) tk0 (ar_cons (ea_v 0) (ar_cons (ea_v 5) ar_nil)))⟩) (s, H, 0, [], [])) ar_nil))) ar_nil))))))) ss_nil)
 (ss_cons (s_if (ta_cmp (o_eq ⟨_, hr⟩) (ea_v 2) ea_str) (ss_cons (s_set (i := 7) (ea_lc rfl sc_spec.nd (i_range1 (He.free_ok hX hG (c.ck 13 rfl)) (ar_cons (ea_op o_add ea_int (ea_call (g_take hX hG c) (hr.mono (by decide)) takesT (ar_cons (ea_v 0) (ar_cons ea_int ar_nil)))) ar_nil)) (own := [("_law_k", 6)]) (blkOk_by (N := ["_law_pot_here", "_law_most", "_law_sort", "_law_many", "_law_places", "_law_wide", "_law_k", "_law_tops", "_law_seats"]) (sc := defScope (top 45)) (by decide +kernel)) (wgt_name (by decide)) (fun s H C cl fp => (g_name (i := 6) sc_spec.nd)) (fun s H C cl fp => ⟨_, ts_nil⟩) (fun s H C cl fp => ⟨_, (ea_ix (ea_lst (ar_cons ea_int (ar_cons ea_int (ar_cons ea_int (ar_cons (ea_call (g_take hX hG c) (hr.mono (by decide)) tk0 (ar_cons (ea_v 0) (ar_cons ea_int ar_nil))) ar_nil))))) (ea_call (g_take hX hG c) (hr.mono (by decide)) tk0 (ar_cons (ea_v 0) (ar_cons ea_int ar_nil))))⟩) (s, H, 0, [], [])) sc_spec.nd)
 (ss_one (s_ret (ea_tup (ar_cons (ea_v 2) (ar_cons (ea_v 7) (ar_cons (ea_call (g_with_alike hX hG c) (hr.mono (by decide)) takesT (ar_cons (ea_v 0) (ar_cons (ea_lc rfl sc_spec.nd (i_range1 (He.free_ok hX hG (c.ck 13 rfl)) (ar_cons (ea_v 3) ar_nil)) (own := [("_law_k", 6)]) (blkOk_by (N := ["_law_pot_here", "_law_most", "_law_sort", "_law_many", "_law_places", "_law_wide", "_law_k", "_law_tops", "_law_seats"]) (sc := defScope (top 45)) (by decide +kernel)) (wgt_name (by decide)) (fun s H C cl fp => (g_name (i := 6) sc_spec.nd)) (fun s H C cl fp => ⟨_, ts_nil⟩) (fun s H C cl fp => ⟨_, (ea_call (g_take hX hG c) (hr.mono (by decide)) tk0 (ar_cons (ea_v 0) (ar_cons (ea_callB c_len (He.free_ok hX hG (c.ck 10 rfl)) (ar_cons (ea_v 7) ar_nil)) ar_nil)))⟩) (s, H, 0, [], [])) ar_nil))) ar_nil))))))) ss_nil)
 (ss_cons (s_set (i := 8) (ea_call (g_take hX hG c) (hr.mono (by decide)) takesT (ar_cons (ea_v 0) (ar_cons (ea_ix (ea_lst (ar_cons ea_int (ar_cons ea_int ar_nil))) (ea_call (g_take hX hG c) (hr.mono (by decide)) takesT (ar_cons (ea_v 0) (ar_cons ea_int ar_nil)))) ar_nil))) sc_spec.nd)
 (ss_one (s_ret (ea_tup (ar_cons (ea_v 2) (ar_cons (ea_v 8) (ar_cons (ea_call (g_with_alike hX hG c) (hr.mono (by decide)) takesT (ar_cons (ea_v 0) (ar_cons (ea_call (g_seat_rows hX hG c) (hr.mono (by decide)) takesT (ar_cons (ea_v 0) (ar_cons (ea_v 8) (ar_cons (ea_v 3) ar_nil)))) ar_nil))) ar_nil))))))))))))⟩) (law_spec K)
theorem g_spec : GF P w K mg base "_law_spec" 3 ["_law_pot_here", "_law_most"] (sp_spec K) := by
  obtain ⟨fd, F⟩ := c.df 61 (d := d61) rfl
  exact ⟨_, fd, He.glo_ok hX hG (c.ck 114 rfl), F.kp, (F.bindsN fun _ _ _ _ _ _ us hl => match us, hl with | [_, _], _ => rfl), fn_spec hX hG c F⟩
theorem fn_made {fd : FuncData} (F : FunD K (d62).name (d62).qual (d62).params (d62).body (d62).scope ((d62).dvs K) ((d62).kws K) (He.fAd K (d62).at_) fd) : FnA P w K mg base 5 (He.fAd K (d62).at_) fd ["_law_spec_here"] (sp_made K) :=
  fnA_of (a := a_made K) F sc_made (len_made K) (fun cdv A outer s H E hr => ⟨_, (ss_cons (s_asg (ea_v 0) (g_tup (n := 3) rfl (gs_cons (g_name (i := 1) sc_made.nd) (gs_cons (g_name (i := 2) sc_made.nd) (gs_cons (g_name (i := 3) sc_made.nd) gs_nil))) wofAny))
 (ss_cons (s_if (ta_cmp (o_eq ⟨_, hr⟩) (ea_v 1) ea_str) (ss_one (s_ret (ea_make (g_Ties hX hG c) (hr.mono (by decide)) takesT (ar_cons (ea_v 2) (ar_cons (ea_callTy c_list (He.free_ok hX hG (c.ck 8 rfl)) (ar_cons (ea_v 3) ar_nil)) ar_nil))))) ss_nil)
 (ss_cons (s_if (ta_cmp (o_eq ⟨_, hr⟩) (ea_v 1) ea_str) (ss_one (s_ret (ea_make (g_Rows hX hG c) (hr.mono (by decide)) takesT (ar_cons (ea_callTy c_list (He.free_ok hX hG (c.ck 8 rfl)) (ar_cons (ea_v 3) ar_nil)) ar_nil)))) ss_nil)
 (ss_cons (s_if (ta_cmp (o_eq ⟨_, hr⟩) (ea_v 1) ea_str) (ss_one (s_ret (ea_make (g_Lots hX hG c) (hr.mono (by decide)) takesT (ar_cons (ea_callTy c_list (He.free_ok hX hG (c.ck 8 rfl)) (ar_cons (ea_v 2) ar_nil)) (ar_cons (ea_callTy c_list (He.free_ok hX hG (c.ck 8 rfl)) (ar_cons (ea_v 3) ar_nil)) ar_nil))))) ss_nil)
 (ss_one (s_ret (ea_make (g_Seats hX hG c) (hr.mono (by decide)) takesT (ar_cons (ea_v 2) (ar_cons (ea_lc rfl sc_made.nd (i_seq (ea_v 3)) (own := [("_law_row", 4)]) (blkOk_by (N := ["_law_spec_here", "_law_sort", "_law_first", "_law_rows", "_law_row"]) (sc := defScope (top 46)) (by decide +kernel)) (wgt_name (by decide)) (fun s H C cl fp => (g_name (i := 4) sc_made.nd)) (fun s H C cl fp => ⟨_, ts_nil⟩) (fun s H C cl fp => ⟨_, (ea_callTy c_list (He.free_ok hX hG (c.ck 8 rfl)) (ar_cons (ea_v 4) ar_nil))⟩) (s, H, 0, [], [])) ar_nil)))))))))⟩) (law_made K)
theorem g_made : GF P w K mg base "_law_made" 5 ["_law_spec_here"] (sp_made K) := by
  obtain ⟨fd, F⟩ := c.df 62 (d := d62) rfl
  exact ⟨_, fd, He.glo_ok hX hG (c.ck 115 rfl), F.kp, (F.bindsN fun _ _ _ _ _ _ us hl => match us, hl with | [_], _ => rfl), fn_made hX hG c F⟩
theorem fn_joined_places {fd : FuncData} (F : FunD K (d63).name (d63).qual (d63).params (d63).body (d63).scope ((d63).dvs K) ((d63).kws K) (He.fAd K (d63).at_) fd) : FnA P w K mg base 1 (He.fAd K (d63).at_) fd ["_law_places", "_law_pairs_here"] (sp_joined_places K) :=
  fnA_of (a := a_joined_places K) F sc_joined_places (len_joined_places K) (fun cdv A outer s H E hr => ⟨_, (ss_cons (s_set (i := 2) (ea_listRg1 rfl (He.free_ok hX hG (c.ck 8 rfl)) (He.free_ok hX hG (c.ck 13 rfl)) (ea_v 0)) sc_joined_places.nd)
 (ss_cons (s_for passT rfl (i_seq (ea_v 1)) (g_tup (n := 2) rfl (gs_cons (g_name (i := 3) sc_joined_places.nd) (gs_cons (g_name (i := 4) sc_joined_places.nd) gs_nil)) wofAny) (ss_cons (s_asg (ea_tup (ar_cons (ea_ix (ea_v 2) (ea_v 3)) (ar_cons (ea_ix (ea_v 2) (ea_v 4)) ar_nil))) (g_tup (n := 2) rfl (gs_cons (g_name (i := 5) sc_joined_places.nd) (gs_cons (g_name (i := 6) sc_joined_places.nd) gs_nil)) wofAny))
 (ss_one (s_setLc (i := 2) rfl sc_joined_places.nd (i_seq (ea_v 2)) (own := [("_law_piece", 7)]) (blkOk_by (N := ["_law_places", "_law_pairs_here", "_law_found", "_law_a", "_law_b", "_law_one", "_law_other", "_law_piece"]) (sc := defScope (top 47)) (by decide +kernel)) (wgt_name (by decide)) (fun s H C cl fp => (g_name (i := 7) sc_joined_places.nd)) (fun s H C cl fp => ⟨_, ts_nil⟩) (fun s H C cl fp => ⟨_, (ea_if (ta_cmp o_inT (ea_v 7) (ea_tup (ar_cons (ea_v 5) (ar_cons (ea_v 6) ar_nil)))) (ea_callB (c_min2 rfl) (He.free_ok hX hG (c.ck 37 rfl)) (ar_cons (ea_v 5) (ar_cons (ea_v 6) ar_nil))) (ea_v 7))⟩) (s, H, 0, [], [])))))
 (ss_one (s_ret (ea_op o_sub (ea_v 0) (ea_lnSt rfl (He.free_ok hX hG (c.ck 10 rfl)) (He.free_ok hX hG (c.ck 11 rfl)) (ea_v 2)))))))⟩) (law_joined_places K)
theorem g_joined_places : GF P w K mg base "_law_joined_places" 1 ["_law_places", "_law_pairs_here"] (sp_joined_places K) := by
  obtain ⟨fd, F⟩ := c.df 63 (d := d63) rfl
  exact ⟨_, fd, He.glo_ok hX hG (c.ck 116 rfl), F.kp, (F.bindsN fun _ _ _ _ _ _ us hl => match us, hl with | [_, _], _ => rfl), fn_joined_places hX hG c F⟩
theorem fn_free_rows {fd : FuncData} (F : FunD K (d64).name (d64).qual (d64).params (d64).body (d64).scope ((d64).dvs K) ((d64).kws K) (He.fAd K (d64).at_) fd) : FnA P w K mg base 1 (He.fAd K (d64).at_) fd ["_law_rows"] (sp_free_rows K) :=
  fnA_of (a := a_free_rows K) F sc_free_rows (len_free_rows K) (fun cdv A outer s H E hr => ⟨_, (ss_cons (s_set (i := 1) (ea_lst ar_nil) sc_free_rows.nd)
 (ss_cons (s_for passT rfl (i_seq (ea_v 0)) (g_name (i := 2) sc_free_rows.nd) (ss_cons (s_for passT rfl (i_seq (ea_v 1)) (g_name (i := 3) sc_free_rows.nd) (ss_one (s_set (i := 2) (ea_callB (c_min2 rfl) (He.free_ok hX hG (c.ck 37 rfl)) (ar_cons (ea_v 2) (ar_cons (ea_op o_bxor (ea_v 2) (ea_v 3)) ar_nil))) sc_free_rows.nd)))
 (ss_one (s_if (ta_cmp o_gt (ea_v 2) ea_int) (ss_one (s_expr (ea_bm m_append PySem.F.slot_list_append PySem.F.type_list_append (ea_v 1) (ar_cons (ea_v 2) ar_nil)))) ss_nil))))
 (ss_one (s_ret (ea_callB c_len (He.free_ok hX hG (c.ck 10 rfl)) (ar_cons (ea_v 1) ar_nil))))))⟩) (law_free_rows K)
theorem g_free_rows : GF P w K mg base "_law_free_rows" 1 ["_law_rows"] (sp_free_rows K) := by
  obtain ⟨fd, F⟩ := c.df 64 (d := d64) rfl
  exact ⟨_, fd, He.glo_ok hX hG (c.ck 117 rfl), F.kp, (F.bindsN fun _ _ _ _ _ _ us hl => match us, hl with | [_], _ => rfl), fn_free_rows hX hG c F⟩
theorem fn_in_lots {fd : FuncData} (F : FunD K (d65).name (d65).qual (d65).params (d65).body (d65).scope ((d65).dvs K) ((d65).kws K) (He.fAd K (d65).at_) fd) : FnA P w K mg base 1 (He.fAd K (d65).at_) fd ["_law_tops", "_law_lots"] (sp_in_lots K) :=
  fnA_of (a := a_in_lots K) F sc_in_lots (len_in_lots K) (fun cdv A outer s H E hr => ⟨_, (ss_one (s_ret (ea_callB (c_sum rfl) (He.free_ok hX hG (c.ck 38 rfl)) (ar_cons (ea_lc rfl sc_in_lots.nd (i_enum (He.free_ok hX hG (c.ck 62 rfl)) (ar_cons (ea_v 0) ar_nil)) (own := [("_law_k", 2), ("_law_top", 3)]) (blkOk_by (N := ["_law_tops", "_law_lots", "_law_k", "_law_top"]) (sc := defScope (top 49)) (by decide +kernel)) (wgt_tup (K := K) (wgs_cons (by decide) (wgs_cons (by decide) wgs_nil))) (fun s H C cl fp => (g_tup (n := 2) rfl (gs_cons (g_name (i := 2) sc_in_lots.nd) (gs_cons (g_name (i := 3) sc_in_lots.nd) gs_nil)) noWAny)) (fun s H C cl fp => ⟨_, ts_nil⟩) (fun s H C cl fp => ⟨_, (ea_callB (c_min2 rfl) (He.free_ok hX hG (c.ck 37 rfl)) (ar_cons (ea_v 3) (ar_cons (ea_bm m_count PySem.F.slot_list_count PySem.F.type_list_count (ea_v 1) (ar_cons (ea_v 2) ar_nil)) ar_nil)))⟩) (s, H, 0, [], [])) ar_nil))))⟩) (law_in_lots K)
theorem g_in_lots : GF P w K mg base "_law_in_lots" 1 ["_law_tops", "_law_lots"] (sp_in_lots K) := by
  obtain ⟨fd, F⟩ := c.df 65 (d := d65) rfl
  exact ⟨_, fd, He.glo_ok hX hG (c.ck 118 rfl), F.kp, (F.bindsN fun _ _ _ _ _ _ us hl => match us, hl with | [_, _], _ => rfl), fn_in_lots hX hG c F⟩
theorem fn_finds {fd : FuncData} (F : FunD K (d66).name (d66).qual (d66).params (d66).body (d66).scope ((d66).dvs K) ((d66).kws K) (He.fAd K (d66).at_) fd) : ∀ n : Nat, FnA P w K mg base (0 + n) (He.fAd K (d66).at_) fd ["_law_thing", "_law_rows", "_law_sits", "_law_tried"] (sp_finds K n) := by
  intro n
  induction n with
  | zero => exact fnA_never (zero_finds K)
  | succ n ih => exact fnA_of (a := a_finds K (sp_finds K n)) F sc_finds (len_finds K (n + 1)) (fun cdv A outer s H E hr => ⟨_, (ss_cons (s_for passT rfl (i_seq (ea_ix (ea_v 1) (ea_v 0))) (g_name (i := 4) sc_finds.nd) (ss_one (s_if (ta_cmp (o_notin ⟨_, hr⟩) (ea_v 4) (ea_v 3)) (ss_cons (s_expr (ea_bm m_append PySem.F.slot_list_append PySem.F.type_list_append (ea_v 3) (ar_cons (ea_v 4) ar_nil)))
 (ss_one (s_if (WstA.t (wa_or (ta_dnotin hr (ea_v 4) (ea_v 2)) (wa_or1 (ta_val (ea_call ⟨_, fd, (He.glo_ok hX hG (c.ck 119 rfl)), F.kp, (F.bindsN fun _ _ _ _ _ _ us hl => match us, hl with | [_, _, _, _], _ => rfl), ih⟩ hr takesT (ar_cons (ea_dix hr (ea_v 2) (ea_v 4)) (ar_cons (ea_v 1) (ar_cons (ea_v 2) (ar_cons (ea_v 3) ar_nil))))))))) (ss_cons (s_dput hr (ea_v 0) (ea_v 2) (ea_v 4))
 (ss_one (s_ret ea_bl))) ss_nil))) ss_nil)))
 (ss_one (s_ret ea_bl)))⟩) (law_finds K n)
theorem g_finds (n : Nat) : GF P w K mg base "_law_finds" (0 + n) ["_law_thing", "_law_rows", "_law_sits", "_law_tried"] (sp_finds K n) := by
  obtain ⟨fd, F⟩ := c.df 66 (d := d66) rfl
  exact ⟨_, fd, He.glo_ok hX hG (c.ck 119 rfl), F.kp, (F.bindsN fun _ _ _ _ _ _ us hl => match us, hl with | [_, _, _, _], _ => rfl), fn_finds hX hG c F n⟩
theorem fn_sitting {fd : FuncData} (F : FunD K (d67).name (d67).qual (d67).params (d67).body (d67).scope ((d67).dvs K) ((d67).kws K) (He.fAd K (d67).at_) fd) : FnA P w K mg base 14 (He.fAd K (d67).at_) fd ["_law_rows"] (sp_sitting K) :=
  fnA_of (a := a_sitting K) F sc_sitting (len_sitting K) (fun cdv A outer s H E hr => ⟨_, (ss_cons (s_set (i := 1) ea_dnew sc_sitting.nd)
 (ss_one (s_ret (ea_callB (c_sum rfl) (He.free_ok hX hG (c.ck 38 rfl)) (ar_cons (ea_lc rfl sc_sitting.nd (i_range1 (He.free_ok hX hG (c.ck 13 rfl)) (ar_cons (ea_callB c_len (He.free_ok hX hG (c.ck 10 rfl)) (ar_cons (ea_v 0) ar_nil)) ar_nil)) (own := [("_law_k", 2)]) (blkOk_by (N := ["_law_rows", "_law_sits", "_law_k"]) (sc := defScope (top 51)) (by decide +kernel)) (wgt_name (by decide)) (fun s H C cl fp => (g_name (i := 2) sc_sitting.nd)) (fun s H C cl fp => ⟨_, ts_nil⟩) (fun s H C cl fp => ⟨_, (ea_callTy c_int (He.free_ok hX hG (c.ck 0 rfl)) (ar_cons (ea_call (g_finds hX hG c 13) (hr.mono (by decide)) tk0 (ar_cons (ea_v 2) (ar_cons (ea_v 0) (ar_cons (ea_v 1) (ar_cons (ea_lst ar_nil) ar_nil))))) ar_nil))⟩) (s, H, 0, [], [])) ar_nil)))))⟩) (law_sitting K)
theorem g_sitting : GF P w K mg base "_law_sitting" 14 ["_law_rows"] (sp_sitting K) := by
  obtain ⟨fd, F⟩ := c.df 67 (d := d67) rfl
  exact ⟨_, fd, He.glo_ok hX hG (c.ck 120 rfl), F.kp, (F.bindsN fun _ _ _ _ _ _ us hl => match us, hl with | [_], _ => rfl), fn_sitting hX hG c F⟩
theorem fn_worth {fd : FuncData} (F : FunD K (d68).name (d68).qual (d68).params (d68).body (d68).scope ((d68).dvs K) ((d68).kws K) (He.fAd K (d68).at_) fd) : FnA P w K mg base 15 (He.fAd K (d68).at_) fd ["_law_spec_here", "_law_heap"] (sp_worth K) :=
  fnA_of (a := a_worth K) F sc_worth (len_worth K) (fun cdv A outer s H E hr => ⟨_, (ss_cons (s_asg (ea_v 0) (g_tup (n := 3) rfl (gs_cons (g_name (i := 2) sc_worth.nd) (gs_cons (g_name (i := 3) sc_worth.nd) (gs_cons (g_name (i := 4) sc_worth.nd) gs_nil))) wofAny))
 (ss_cons (s_setLc (i := 5) rfl sc_worth.nd (i_seq (ea_v 1)) (own := [("_law_k", 6)]) (blkOk_by (N := ["_law_spec_here", "_law_heap", "_law_sort", "_law_first", "_law_rows", "_law_some", "_law_k"]) (sc := defScope (top 52)) (by decide +kernel)) (wgt_name (by decide)) (fun s H C cl fp => (g_name (i := 6) sc_worth.nd)) (fun s H C cl fp => ⟨_, ts_nil⟩) (fun s H C cl fp => ⟨_, (ea_ix (ea_v 4) (ea_v 6))⟩) (s, H, 0, [], []))
 (ss_cons (s_if (ta_cmp (o_eq ⟨_, hr⟩) (ea_v 2) ea_str) (ss_one (s_ret (ea_call (g_joined_places hX hG c) (hr.mono (by decide)) takesT (ar_cons (ea_v 3) (ar_cons (ea_v 5) ar_nil))))) ss_nil)
 (ss_cons (s_if (ta_cmp (o_eq ⟨_, hr⟩) (ea_v 2) ea_str) (ss_one (s_ret (ea_call (g_free_rows hX hG c) (hr.mono (by decide)) takesT (ar_cons (ea_v 5) ar_nil)))) ss_nil)
 (ss_cons (s_if (ta_cmp (o_eq ⟨_, hr⟩) (ea_v 2) ea_str) (ss_one (s_ret (ea_call (g_in_lots hX hG c) (hr.mono (by decide)) takesT (ar_cons (ea_v 3) (ar_cons (ea_v 5) ar_nil))))) ss_nil)
 (ss_one (s_ret (ea_call (g_sitting hX hG c) (hr.mono (by decide)) takesT (ar_cons (ea_v 5) ar_nil)))))))))⟩) (law_worth K)
theorem g_worth : GF P w K mg base "_law_worth" 15 ["_law_spec_here", "_law_heap"] (sp_worth K) := by
  obtain ⟨fd, F⟩ := c.df 68 (d := d68) rfl
  exact ⟨_, fd, He.glo_ok hX hG (c.ck 121 rfl), F.kp, (F.bindsN fun _ _ _ _ _ _ us hl => match us, hl with | [_, _], _ => rfl), fn_worth hX hG c F⟩
theorem fn_heaps_of {fd : FuncData} (F : FunD K (d69).name (d69).qual (d69).params (d69).body (d69).scope ((d69).dvs K) ((d69).kws K) (He.fAd K (d69).at_) fd) : FnA P w K mg base 1 (He.fAd K (d69).at_) fd ["_law_heap"] (sp_heaps_of K) :=
  fnA_of (a := a_heaps_of K) F sc_heaps_of (len_heaps_of K) (fun cdv A outer s H E hr => ⟨_, (ss_cons (s_set (i := 1) (ea_lst (ar_cons (ea_lst ar_nil) ar_nil)) sc_heaps_of.nd)
 (ss_cons (s_for passT rfl (i_seq (ea_v 0)) (g_name (i := 2) sc_heaps_of.nd) (ss_one (s_set (i := 1) (ea_op o_add (ea_v 1) (ea_lc rfl sc_heaps_of.nd (i_seq (ea_v 1)) (own := [("_law_some", 3)]) (blkOk_by (N := ["_law_heap", "_law_found", "_law_thing", "_law_some"]) (sc := defScope (top 53)) (by decide +kernel)) (wgt_name (by decide)) (fun s H C cl fp => (g_name (i := 3) sc_heaps_of.nd)) (fun s H C cl fp => ⟨_, ts_nil⟩) (fun s H C cl fp => ⟨_, (ea_op o_add (ea_v 3) (ea_lst (ar_cons (ea_v 2) ar_nil)))⟩) (s, H, 0, [], []))) sc_heaps_of.nd)))
 (ss_one (s_ret (ea_v 1)))))⟩) (law_heaps_of K)
theorem g_heaps_of : GF P w K mg base "_law_heaps_of" 1 ["_law_heap"] (sp_heaps_of K) := by
  obtain ⟨fd, F⟩ := c.df 69 (d := d69) rfl
  exact ⟨_, fd, He.glo_ok hX hG (c.ck 122 rfl), F.kp, (F.bindsN fun _ _ _ _ _ _ us hl => match us, hl with | [_], _ => rfl), fn_heaps_of hX hG c F⟩
theorem fn_worths32 {fd : FuncData} (F : FunD K (d70).name (d70).qual (d70).params (d70).body (d70).scope ((d70).dvs K) ((d70).kws K) (He.fAd K (d70).at_) fd) : FnA P w K mg base 16 (He.fAd K (d70).at_) fd ["_law_spec_here", "_law_many"] (sp_worths32 K) :=
  fnA_of (a := a_worths32 K) F sc_worths32 (len_worths32 K) (fun cdv A outer s H E hr => ⟨_, (ss_cons (s_set (i := 2) ea_dnewT sc_worths32.nd)
 (ss_cons (s_for passT rfl (i_seq (ea_call (g_heaps_of hX hG c) (hr.mono (by decide)) takesT (ar_cons (ea_listRg1 rfl (He.free_ok hX hG (c.ck 8 rfl)) (He.free_ok hX hG (c.ck 13 rfl)) (ea_v 1)) ar_nil))) (g_name (i := 3) sc_worths32.nd) (ss_one (s_dputT hr (He.free_ok hX hG (c.ck 49 rfl)) (ea_call (g_worth hX hG c) (hr.mono (by decide)) takesT (ar_cons (ea_v 0) (ar_cons (ea_v 3) ar_nil))) (ea_v 2) (ea_v 3))))
 (ss_one (s_ret (ea_v 2)))))⟩) (law_worths32 K)
theorem g_worths32 : GF P w K mg base "_law_worths" 16 ["_law_spec_here", "_law_many"] (sp_worths32 K) := by
  obtain ⟨fd, F⟩ := c.df 70 (d := d70) rfl
  exact ⟨_, fd, He.glo_ok hX hG (c.ck 123 rfl), F.kp, (F.bindsN fun _ _ _ _ _ _ us hl => match us, hl with | [_, _], _ => rfl), fn_worths32 hX hG c F⟩
theorem fn_without32 {fd : FuncData} (F : FunD K (d71).name (d71).qual (d71).params (d71).body (d71).scope ((d71).dvs K) ((d71).kws K) (He.fAd K (d71).at_) fd) : FnA P w K mg base 1 (He.fAd K (d71).at_) fd ["_law_heap", "_law_thing"] (sp_without32 K) :=
  fnA_of (a := a_without32 K) F sc_without32 (len_without32 K) (fun cdv A outer s H E hr => ⟨_, (ss_one (s_ret (ea_callTy c_tuple (He.free_ok hX hG (c.ck 49 rfl)) (ar_cons (ea_lc rfl sc_without32.nd (i_seq (ea_v 0)) (own := [("_law_one", 2)]) (blkOk_by (N := ["_law_heap", "_law_thing", "_law_one"]) (sc := defScope (top 55)) (by decide +kernel)) (wgt_name (by decide)) (fun s H C cl fp => (g_name (i := 2) sc_without32.nd)) (fun s H C cl fp => ⟨_, (ts_one (ta_cmp (o_ne ⟨_, hr⟩) (ea_v 2) (ea_v 1)))⟩) (fun s H C cl fp => ⟨_, (ea_v 2)⟩) (s, H, 0, [], [])) ar_nil))))⟩) (law_without32 K)
theorem g_without32 : GF P w K mg base "_law_without" 1 ["_law_heap", "_law_thing"] (sp_without32 K) := by
  obtain ⟨fd, F⟩ := c.df 71 (d := d71) rfl
  exact ⟨_, fd, He.glo_ok hX hG (c.ck 124 rfl), F.kp, (F.bindsN fun _ _ _ _ _ _ us hl => match us, hl with | [_, _], _ => rfl), fn_without32 hX hG c F⟩
theorem fn_bound32 {fd : FuncData} (F : FunD K (d72).name (d72).qual (d72).params (d72).body (d72).scope ((d72).dvs K) ((d72).kws K) (He.fAd K (d72).at_) fd) : FnA P w K mg base 2 (He.fAd K (d72).at_) fd ["_law_worths_here", "_law_heap"] (sp_bound32 K) :=
  fnA_of (a := a_bound32 K) F sc_bound32 (len_bound32 K) (fun cdv A outer s H E hr => ⟨_, (ss_cons (s_if (ta_cmp (o_eq ⟨_, hr⟩) (ea_v 1) (ea_lst ar_nil)) (ss_one (s_ret ea_bl)) ss_nil)
 (ss_one (s_ret (ea_callB (c_all rfl) (He.free_ok hX hG (c.ck 9 rfl)) (ar_cons (ea_lc rfl sc_bound32.nd (i_seq (ea_v 1)) (own := [("_law_thing", 2)]) (blkOk_by (N := ["_law_worths_here", "_law_heap", "_law_thing"]) (sc := defScope (top 56)) (by decide +kernel)) (wgt_name (by decide)) (fun s H C cl fp => (g_name (i := 2) sc_bound32.nd)) (fun s H C cl fp => ⟨_, ts_nil⟩) (fun s H C cl fp => ⟨_, (ea_cmp (o_eq ⟨_, hr⟩) (ea_dixT hr (ea_v 0) (ea_call (g_without32 hX hG c) (hr.mono (by decide)) tk0 (ar_cons (ea_v 1) (ar_cons (ea_v 2) ar_nil)))) (ea_dixT hr (ea_v 0) (ea_callTy c_tuple (He.free_ok hX hG (c.ck 49 rfl)) (ar_cons (ea_v 1) ar_nil))))⟩) (s, H, 0, [], [])) ar_nil)))))⟩) (law_bound32 K)
theorem g_bound32 : GF P w K mg base "_law_is_bound" 2 ["_law_worths_here", "_law_heap"] (sp_bound32 K) := by
  obtain ⟨fd, F⟩ := c.df 72 (d := d72) rfl
  exact ⟨_, fd, He.glo_ok hX hG (c.ck 125 rfl), F.kp, (F.bindsN fun _ _ _ _ _ _ us hl => match us, hl with | [_, _], _ => rfl), fn_bound32 hX hG c F⟩
theorem fn_due32 {fd : FuncData} (F : FunD K (d73).name (d73).qual (d73).params (d73).body (d73).scope ((d73).dvs K) ((d73).kws K) (He.fAd K (d73).at_) fd) : FnA P w K mg base 3 (He.fAd K (d73).at_) fd ["_law_worths_here", "_law_many", "_law_heap"] (sp_due32 K) :=
  fnA_of (a := a_due32 K) F sc_due32 (len_due32 K) (fun cdv A outer s H E hr => ⟨_, (ss_cons (s_setLc (i := 3) rfl sc_due32.nd (i_seq (ea_call (g_heaps_of hX hG c) (hr.mono (by decide)) takesT (ar_cons (ea_v 2) ar_nil))) (own := [("_law_some", 4)]) (blkOk_by (N := ["_law_worths_here", "_law_many", "_law_heap", "_law_fewer", "_law_some", "_law_is_ring_here", "_law_rest", "_law_thing", "_law_whole", "_law_is_fence_here", "_law_with_one"]) (sc := defScope (top 57)) (by decide +kernel)) (wgt_name (by decide)) (fun s H C cl fp => (g_name (i := 4) sc_due32.nd)) (fun s H C cl fp => ⟨_, (ts_one (ta_cmp o_lt (ea_callB c_len (He.free_ok hX hG (c.ck 10 rfl)) (ar_cons (ea_v 4) ar_nil)) (ea_callB c_len (He.free_ok hX hG (c.ck 10 rfl)) (ar_cons (ea_v 2) ar_nil))))⟩) (fun s H C cl fp => ⟨_, (ea_v 4)⟩) (s, H, 0, [], []))
 (ss_cons (s_set (i := 5) (ea_and (ea_call (g_bound32 hX hG c) (hr.mono (by decide)) takesT (ar_cons (ea_v 0) (ar_cons (ea_v 2) ar_nil))) (ea_one (ea_not (ea_callB (c_any rfl) (He.free_ok hX hG (c.ck 63 rfl)) (ar_cons (ea_lc rfl sc_due32.nd (i_seq (ea_v 3)) (own := [("_law_some", 4)]) (blkOk_by (N := ["_law_worths_here", "_law_many", "_law_heap", "_law_fewer", "_law_some", "_law_is_ring_here", "_law_rest", "_law_thing", "_law_whole", "_law_is_fence_here", "_law_with_one"]) (sc := defScope (top 57)) (by decide +kernel)) (wgt_name (by decide)) (fun s H C cl fp => (g_name (i := 4) sc_due32.nd)) (fun s H C cl fp => ⟨_, ts_nil⟩) (fun s H C cl fp => ⟨_, (ea_call (g_bound32 hX hG c) (hr.mono (by decide)) tk0 (ar_cons (ea_v 0) (ar_cons (ea_v 4) ar_nil)))⟩) (s, H, 0, [], [])) ar_nil))))) sc_due32.nd)
 (ss_cons (s_set (i := 6) (ea_lc rfl sc_due32.nd (i_range1 (He.free_ok hX hG (c.ck 13 rfl)) (ar_cons (ea_v 1) ar_nil)) (own := [("_law_thing", 7)]) (blkOk_by (N := ["_law_worths_here", "_law_many", "_law_heap", "_law_fewer", "_law_some", "_law_is_ring_here", "_law_rest", "_law_thing", "_law_whole", "_law_is_fence_here", "_law_with_one"]) (sc := defScope (top 57)) (by decide +kernel)) (wgt_name (by decide)) (fun s H C cl fp => (g_name (i := 7) sc_due32.nd)) (fun s H C cl fp => ⟨_, (ts_one (ta_cmp (o_notin ⟨_, hr⟩) (ea_v 7) (ea_v 2)))⟩) (fun s H C cl fp => ⟨_, (ea_v 7)⟩) (s, H, 0, [], [])) sc_due32.nd)
 (ss_cons (s_set (i := 8) (ea_dixT hr (ea_v 0) (ea_tupRg1 rfl (He.free_ok hX hG (c.ck 49 rfl)) (He.free_ok hX hG (c.ck 13 rfl)) (ea_v 1))) sc_due32.nd)
 (ss_cons (s_set (i := 9) (ea_cmp o_lt (ea_dixT hr (ea_v 0) (ea_callTy c_tuple (He.free_ok hX hG (c.ck 49 rfl)) (ar_cons (ea_v 6) ar_nil))) (ea_v 8)) sc_due32.nd)
 (ss_cons (s_setLc (i := 10) rfl sc_due32.nd (i_seq (ea_v 2)) (own := [("_law_thing", 7)]) (blkOk_by (N := ["_law_worths_here", "_law_many", "_law_heap", "_law_fewer", "_law_some", "_law_is_ring_here", "_law_rest", "_law_thing", "_law_whole", "_law_is_fence_here", "_law_with_one"]) (sc := defScope (top 57)) (by decide +kernel)) (wgt_name (by decide)) (fun s H C cl fp => (g_name (i := 7) sc_due32.nd)) (fun s H C cl fp => ⟨_, ts_nil⟩) (fun s H C cl fp => ⟨_, (ea_dixT hr (ea_v 0) (ea_callTy c_tuple (He.free_ok hX hG (c.ck 49 rfl)) (ar_cons (ea_callB c_sorted (He.free_ok hX hG (c.ck 12 rfl)) (ar_cons (ea_op o_add (ea_v 6) (ea_lst (ar_cons (ea_v 7) ar_nil))) ar_nil)) ar_nil)))⟩) (s, H, 0, [], []))
 (ss_one (s_ret (ea_lst (ar_cons (ea_v 5) (ar_cons (ea_v 9) (ar_cons (ea_and (ea_v 9) (ea_one (ea_cmp (o_eq ⟨_, hr⟩) (ea_v 10) (ea_op o_mulL (ea_lst (ar_cons (ea_v 8) ar_nil)) (ea_callB c_len (He.free_ok hX hG (c.ck 10 rfl)) (ar_cons (ea_v 2) ar_nil)))))) ar_nil))))))))))))⟩) (law_due32 K)
theorem g_due32 : GF P w K mg base "_law_due" 3 ["_law_worths_here", "_law_many", "_law_heap"] (sp_due32 K) := by
  obtain ⟨fd, F⟩ := c.df 73 (d := d73) rfl
  exact ⟨_, fd, He.glo_ok hX hG (c.ck 126 rfl), F.kp, (F.bindsN fun _ _ _ _ _ _ us hl => match us, hl with | [_, _, _], _ => rfl), fn_due32 hX hG c F⟩
theorem fn_law {fd : FuncData} (F : FunD K (d74).name (d74).qual (d74).params (d74).body (d74).scope ((d74).dvs K) ((d74).kws K) (He.fAd K (d74).at_) fd) : FnA P w K mg base 19 (He.fAd K (d74).at_) fd ["_law_script"] (sp_law K) :=
  fnA_of (a := a_law K) F sc_law (len_law K) (fun cdv A outer s H E hr => ⟨_, (ss_cons (s_set (i := 1) (ea_callB (c_max2 rfl) (He.free_ok hX hG (c.ck 60 rfl)) (ar_cons ea_int (ar_cons (ea_callB (c_min2 rfl) (He.free_ok hX hG (c.ck 37 rfl)) (ar_cons (ea_callB c_len (He.free_ok hX hG (c.ck 10 rfl)) (ar_cons (ea_v 0) ar_nil)) (ar_cons ea_int ar_nil))) ar_nil))) sc_law.nd)
 (ss_cons (s_for passT rfl (i_range1 (He.free_ok hX hG (c.ck 13 rfl)) (ar_cons (ea_v 1) ar_nil)) (g_name (i := 2) sc_law.nd) (ss_cons (s_set (i := 3) (ea_call (g_pot hX hG c) (hr.mono (by decide)) takesT (ar_cons (ea_v 0) (ar_cons (ea_v 2) ar_nil))) sc_law.nd)
 (ss_cons (s_set (i := 4) (ea_call (g_spec hX hG c) (hr.mono (by decide)) takesT (ar_cons (ea_v 3) (ar_cons (ea_ix (ea_lst (ar_cons ea_int (ar_cons ea_int ar_nil))) (ea_callTy c_int (He.free_ok hX hG (c.ck 0 rfl)) (ar_cons (ea_cmp (o_eq ⟨_, hr⟩) (ea_v 1) ea_int) ar_nil))) ar_nil))) sc_law.nd)
 (ss_cons (s_set (i := 5) (ea_callB c_len (He.free_ok hX hG (c.ck 10 rfl)) (ar_cons (ea_ix (ea_v 4) ea_int) ar_nil)) sc_law.nd)
 (ss_cons (s_par (i := 6) (j := 7) rfl sc_law.nd (ar_cons (ea_call (g_made hX hG c) (hr.mono (by decide)) takesT (ar_cons (ea_v 4) ar_nil)) (ar_cons (ea_call (g_worths32 hX hG c) (hr.mono (by decide)) takesT (ar_cons (ea_v 4) (ar_cons (ea_v 5) ar_nil))) ar_nil)))
 (ss_one (s_for passT rfl (i_seq (ea_call (g_heaps_of hX hG c) (hr.mono (by decide)) takesT (ar_cons (ea_listRg1 rfl (He.free_ok hX hG (c.ck 8 rfl)) (He.free_ok hX hG (c.ck 13 rfl)) (ea_v 5)) ar_nil))) (g_name (i := 8) sc_law.nd) (ss_cons (s_set (i := 9) (ea_call (g_shuffled hX hG c) (hr.mono (by decide)) takesT (ar_cons (ea_v 3) (ar_cons (ea_v 8) ar_nil))) sc_law.nd)
 (ss_cons (s_set (i := 10) (ea_callTy c_list (He.free_ok hX hG (c.ck 8 rfl)) (ar_cons (ea_v 9) ar_nil)) sc_law.nd)
 (ss_cons (s_set (i := 11) (ea_lst (ar_cons (ea_call (g_is_ring hX hG c) (hr.mono (by decide)) takesT (ar_cons (ea_v 6) (ar_cons (ea_v 9) ar_nil))) (ar_cons (ea_call (g_is_fence hX hG c) (hr.mono (by decide)) takesT (ar_cons (ea_v 6) (ar_cons (ea_v 9) ar_nil))) (ar_cons (ea_call (g_is_least_fence hX hG c) (hr.mono (by decide)) takesT (ar_cons (ea_v 6) (ar_cons (ea_v 9) ar_nil))) ar_nil)))) sc_law.nd)
 (ss_one (s_if (WstA.t (wa_or (ta_cmp (o_ne ⟨_, hr⟩) (ea_callB (c_repr ⟨_, hr⟩) (He.free_ok hX hG (c.ck 64 rfl)) (ar_cons (ea_v 11) ar_nil)) (ea_callB (c_repr ⟨_, hr⟩) (He.free_ok hX hG (c.ck 64 rfl)) (ar_cons (ea_call (g_due32 hX hG c) (hr.mono (by decide)) takesT (ar_cons (ea_v 7) (ar_cons (ea_v 5) (ar_cons (ea_v 8) ar_nil)))) ar_nil))) (wa_or1 (ta_cmp (o_ne ⟨_, hr⟩) (ea_v 9) (ea_v 10))))) (ss_one (s_ret ea_bl)) ss_nil))))))))))))
 (ss_one (s_ret ea_bl))))⟩) (law_law K)
end

theorem facts {P : Program} {w : World} {K : PySem.W.Frag} {h : Heap} {mg : Str → Option Value} {f : Addr} (hX : K.In h) (hG : h.Ns mainGlobals mg) (hfa : mg ("law" : Str) = some (.ref f)) (c : SaysX fc fn K) :
    ∃ fd : FuncData, (∀ (s : Shared) (v : Value), BindsTo s fd ⟨[v], []⟩ [("_law_script", v)]) ∧ (∀ ns : List Int, ns.length ≤ 63 → Bits ns → sp_law K [.scr ns] noS (fun d _ => d = .bl true) noX) ∧
      ∀ base : Heap, K.In base → base.Ns mainGlobals mg → FnA P w K mg base 19 f fd ["_law_script"] (sp_law K) := by
  obtain ⟨fd, F⟩ := c.df 74 (d := d74) rfl
  have e := hfa.symm.trans (He.glo_ok hX hG (c.ck 127 rfl))
  cases e
  have b := FunD.bindsA (ps := ["_law_script"]) F fun _ _ _ _ _ _ us hl => match us, hl with | [_], _ => rfl
  refine ⟨fd, fun s v => b s [v] rfl, fun ns h1 h2 => ⟨ns, rfl, h1, h2, of_decide_eq_true (c.ck 65 rfl), rfl⟩, fun base _ _ => fn_law hX hG c F⟩
end A
open PySem PySem.W PySem.Calls PyProof.Rows
theorem PySem.Challenge.cw_noaslong_k32_whole_rings_and_fences_holds : PySem.Challenge.rw_noaslong_k32_whole_rings_and_fences.Holds := by
  refine A.pre_ fun w mg g h Y G hmg => ?_
  obtain ⟨K, KX, c⟩ := Y
  obtain ⟨fd, hb, hs, hF⟩ := A.facts (P := A.R.prog) (w := w) KX G hmg c
  exact ⟨K, fd, A.sp_law K, KX, hb, hs, hF⟩

