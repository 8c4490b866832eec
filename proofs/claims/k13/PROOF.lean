import PyProof.Rows.All
import Wide.All
import OpenK.AllK
import Wide.FinOn
import KE.KStateDown
import HandS.ForMost
import HandS.Exc
import HandS.ExcOwn
import HandS.ExcInit
import HandS.TryOnly
import HandS.WordsExc
import HandS.Defaults
import HandS.Walk
import HandS.Deep
import HandS.Wide
import HandS.WideBits
import HandS.Set
import HandS.Strs
import HandS.Conv
import HandS.Style
import HandS.IsInst
import PyProof.ReprLen
import HandS.SortInts
import HandS.ClsMeth
import HandS.Head0
import HandS.Head1
import HandS.Head2
import HandS.HeadEnd
import HandS.HeadHook1
import HandS.HeadHook2
import HandS.TupSets
import HandS.EndBits
import HandS.WordsDict
import HandS.Dict
import HandS.More
import PySem.Challenge.RW_noaslong_k13_rows_by_sums
set_option Elab.async false
set_option linter.all false
set_option maxRecDepth 100000
set_option maxHeartbeats 0
/-! ## functions whose promise may lean on there being no guard around -/
namespace A
open PySem PySem.Spec L2 PyProof.Rows
abbrev St := L2.St

structure RoomG (k : Nat) (A : Around) : Prop where
  room : Room k A
  gd : A.guards = some []
theorem RoomG.mono {j k : Nat} {A : Around} (r : RoomG k A) (h : j ≤ k) : RoomG j A := ⟨r.room.mono h, r.gd⟩
theorem RoomG.deeper {k : Nat} {A : Around} (r : RoomG (k + 1) A) (env : Env) : RoomG k (A.deeper env) := ⟨r.room.deeper env, r.gd⟩
theorem RoomG.make {k : Nat} {A : Around} (r : RoomG (k + 1) A) (C : Addr) (us : List Value) (kw : List (Str × Value)) :
    RoomG k (A.under (.builtin "type.__call__" ⟨.ref C :: us, kw⟩)) := by
  refine ⟨r.room.make C us kw, ?_⟩
  have e := r.gd
  first
    | exact e
    | (simp [Around.under, Code.guards, Code.isGuard, guardIds, pushGuards, e])

abbrev XT (P : Program) (w : World) : CXT := L2.CX P w

structure FnG (P : Program) (w : World) (K : PySem.W.Frag) (mg : Str → Option Value) (base : Heap) (k : Nat) (f : Addr) (fd : FuncData) (ps : List Str) (sp : Sp) : Prop where
  len : ∀ vs H Q E, sp vs H Q E → vs.length = ps.length
  run : ∀ (A : Around) (outer : List Env) (s : Shared) (H : Hp) (args : Args) (us : List Value) (vs : List V) (Q : VK) (E : XK), RoomG k A → Env0 P w K mg base A outer s H →
    BindsTo s fd args (ps.zip us) → Vals vs us → sp vs H Q E → codeAny (model P w) A (.call (.ref f) args) (CR (XT P w) outer P w H s Q E) s
section
variable {P : Program} {w : World} {K : PySem.W.Frag} {mg : Str → Option Value} {base : Heap}
theorem FnG.mono {j k : Nat} {f : Addr} {fd : FuncData} {ps : List Str} {sp : Sp} (F : FnG P w K mg base j f fd ps sp) (h : j ≤ k) : FnG P w K mg base k f fd ps sp :=
  ⟨F.len, fun A o s H a us vs Q E hr => F.run A o s H a us vs Q E (hr.mono h)⟩
theorem FnG.imp {k : Nat} {f : Addr} {fd : FuncData} {ps : List Str} {sp sp' : Sp} (F : FnG P w K mg base k f fd ps sp) (h : ∀ vs H Q E, sp' vs H Q E → sp vs H Q E) : FnG P w K mg base k f fd ps sp' :=
  ⟨fun vs H Q E q => F.len vs H Q E (h vs H Q E q), fun A o s H a us vs Q E hr e b v q => F.run A o s H a us vs Q E hr e b v (h vs H Q E q)⟩

/-- a def by its body, as FunD tells it -/
theorem fnG_of {x qual : Str} {params : Arguments} {body : List Stmt} {scope : Scope} {dvs : List V} {kws : List (Str × V)} {f : Addr} {fd : FuncData} {N ps : List Str} {k : Nat} {sp : Sp}
    (F : FunD K x qual params body scope dvs kws f fd) (S : FnScope N ps scope) (len : ∀ vs H Q E, sp vs H Q E → vs.length = ps.length)
    (hb : ∀ (cdv : Value) (A : Around) (outer : List Env) (s : Shared) (H : Hp) (vs : List V) (Q : VK) (E : XK), RoomG k (A.deeper (envOfC qual scope s.heap.objs.size f cdv)) → sp vs H Q E →
      ∃ t, PSs (cxOf (XT P w) P w K mg base N qual scope f cdv A outer s H E) body t ∧ t { nx := fun _ H' => Q .non H', rt := Q } (start N vs) H) :
    FnG P w K mg base (k + 1) f fd ps sp := by
  obtain ⟨oc, od, dV, kV, doc, pm, an, cdv, ct, osl, efd, lk, hcd, _, _⟩ := F.ex
  subst efd
  refine ⟨len, fun A outer s H args us vs Q E hr e0 hbi r hsp => ?_⟩
  have keep : ∀ b o, base.get? b = some o → s.heap.get? b = some o := fun b o e => (e0.bs b o e).1
  have KX : K.In s.heap := e0.mod.kin.keeps keep
  have lim : s.heap.NoLimit := e0.mod.nolimit.keeps keep
  have kinds : ∀ y ∈ ps.zip us, scope.names.lookup y.1 = some .local ∨ (scope.names.lookup y.1 = some .cell ∧ ((cellsFrom (s.heap.objs.size + 1) scope.names []).lookup y.1).isSome = true) := by
    rintro ⟨n, v⟩ hy
    cases S.par n (List.of_mem_zip hy).1 with
    | inl q => exact Or.inl q
    | inr q => exact Or.inr ⟨q, PySem.W.cellsFrom_some _ _ _ (Or.inl q)⟩
  refine codeAny_call_function hr.room.depth (KX _ _ lk) rfl S.co S.gen rfl (PySem.W.codeRec_of KX hcd) (hbi _ _ _ _ ?_)
  refine wpAny_newFunctionEnv_cells S.kind kinds fun env he s1 xc => ?_
  subst he
  refine ⟨lim.keeps xc.toInCall.keep, codeAny_func ?_⟩
  obtain ⟨t, ht, hq⟩ := hb cdv A outer s H vs Q E (hr.deeper _) hsp
  have I := inv_start (CX := XT P w) (mg := mg) (base := base) (E := E) S hr.room.hd e0 (len _ _ _ _ hsp) r xc
  refine wpAny_mono (ht.run [] s1 (start N vs) H _ I hq) (fun fl s' hs => ?_) (fun e s' hs => hs)
  have fin : ∀ {σ' : St} {H' : Hp} {v : V} {u : Value}, Inv (cxOf (XT P w) P w K mg base N qual scope f cdv A outer s H E) [] σ' H' s' → RelV v u → Q v H' → CE outer P w H s Q u s' := by
    intro σ' H' v u J rv q
    exact ⟨v, H', J.os, J.bare, J.base, J.hok, rv, q⟩
  cases fl with
  | next =>
    obtain ⟨σ', H', J, q⟩ := hs
    exact fin (v := .non) (u := .none) J rfl q
  | ret u =>
    obtain ⟨v, σ', H', J, rv, q⟩ := hs
    exact fin J rv q
  | brk =>
    obtain ⟨_, _, _, q⟩ := hs
    exact q.elim
  | cont =>
    obtain ⟨_, _, _, q⟩ := hs
    exact q.elim
end

section
variable {X : Cx} {k : Nat} {f C : Addr} {fd : FuncData} {ps ks : List Str} {sp : Sp} {x m : Str} {p pos apos : Pos} {e o : Expr} {es : List Expr} {kws : List Keyword} {W : WX}
/-- what the callee tells lies as this body wants it -/
theorem went {pins : List (Addr × Obj)} {σ : St} {H : Hp} {s s' : Shared} {Q : VK} {r : Result} (tk : Takes X W) (I : Inv X pins σ H s) (h : CR (XT X.prog X.w) X.stack X.prog X.w H s Q (WE W σ) r s') :
    match r with | .ok (.ret v) => EP X pins σ Q v s' | .ok _ => False | .error e => X.xe e s' := by
  cases r with
  | error e => exact passAt tk σ pins H s e s' I h
  | ok fl =>
    cases fl with
    | ret u => exact I.after h
    | next => exact h
    | brk => exact h
    | cont => exact h
/-- the callee runs: any arguments args that bind to the values us in the parameters' order -/
theorem run_g {pins : List (Addr × Obj)} {σ : St} {H : Hp} {s : Shared} {Q : VK} {us : List Value} {vs : List V} {pa : List Value} {kw : List (Str × Value)} (F : FnG X.prog X.w X.K X.mg X.base k f fd ps sp) (hr : RoomG k X.A)
    (tk : Takes X W) (I : Inv X pins σ H s) (hb : BindsTo s fd ⟨pa, kw⟩ (ps.zip us)) (r : Vals vs us) (h : sp vs H Q (WE W σ)) :
    wpAny (model X.prog X.w) X.A (call (.ref f) pa kw) (EP X pins σ Q) X.xe s := by
  refine wpAny_call (codeAny_mono (F.run X.A X.stack s H ⟨pa, kw⟩ us vs Q (WE W σ) hr I.env0 hb r h) fun r s' hq => ?_)
  have := went tk I hq
  cases r with
  | error e => exact this
  | ok fl => cases fl <;> exact this
/-- an instance is made, its __init__ runs -/
theorem run_mk {pins : List (Addr × Obj)} {σ : St} {H : Hp} {s : Shared} {Q : VK} {pa : List Value} {kw : List (Str × Value)} (M : Mk X.K C f) (F : FnG X.prog X.w X.K X.mg X.base k f fd ps sp) (hr : RoomG (k + 1) X.A)
    (tk : Takes X W) (I : Inv X pins σ H s) (bnd : List Value → List Value) (bV : List V → List V) (hb : ∀ (s : Shared) (y : Value), X.K.In s.heap → BindsTo s fd ⟨y :: pa, kw⟩ (ps.zip (y :: bnd pa))) {vs : List V} (r : Vals (bV vs) (bnd pa))
    (h : ∀ y dx, H y = none → H dx = none → dx ≠ y → sp (.ref y :: bV vs) (upd (upd H dx (.own y)) y (.ins C dx [])) (fun v H2 => v = .non ∧ Q (.ref y) H2) (WE W σ)) :
    wpAny (model X.prog X.w) X.A (call (.ref C) pa kw) (EP X pins σ Q) X.xe s := by
  have hq := h (s.heap.objs.size + 1) s.heap.objs.size (I.hok.fresh (Nat.le_succ _)) (I.hok.fresh (Nat.le_refl _)) (Nat.ne_of_lt (Nat.lt_succ_self _))
  have I2 := Inv.made (C := C) I
  have r2 : Vals (V.ref (s.heap.objs.size + 1) :: bV vs) (Value.ref (s.heap.objs.size + 1) :: bnd pa) := .cons rfl r
  refine wpAny_call (make_map (f := f) I.kIn M.makes M.init (beq_iff_eq.mp M.fn) (codeAny_mono (F.run _ X.stack _ _ ⟨Value.ref (s.heap.objs.size + 1) :: pa, kw⟩ (Value.ref (s.heap.objs.size + 1) :: bnd pa) _ _ (WE W σ)
    (hr.make C pa kw) (I2.env0.make C pa kw) (hb _ _ I2.kIn) r2 hq) fun r s' hq' => ?_))
  have z := went tk I2 hq'
  cases r with
  | error e => exact z
  | ok fl =>
    cases fl with
    | ret u =>
      obtain ⟨v, H', I3, rv, ev, q3⟩ := z
      subst ev
      exact ⟨rv, ⟨V.ref (s.heap.objs.size + 1), H', I3, rfl, q3⟩⟩
    | next => exact z.elim
    | brk => exact z.elim
    | cont => exact z.elim
end
end A

/-! ## what is known of values and of the heap: data that nobody changes (D), and objects that are somebody's own (Cell) -/
namespace A
open PySem PySem.Spec L2 PyProof.Rows

structure KW where
  K : PySem.W.Frag
  w : World
abbrev _root_.L2.Cx.kw (X : Cx) : KW := ⟨X.K, X.w⟩

inductive D where
  | non | bl (b : Bool) | int (i : Int) | str (x : Str) | ty (n : String)
  | lst (l : List D) | tup (l : List D) | set (l : List Int) | own (a : Addr) | scr (l : List Int)

inductive Cell where
  | lst (l : List D) | dct (l : List (Key × D)) | ins (C : Addr) (fs : List (Str × D)) | pot

abbrev Sto := Addr → Option Cell
def put (S : Sto) (a : Addr) (c : Cell) : Sto := fun b => if b = a then some c else S b
theorem put_same {S : Sto} {a : Addr} {c : Cell} : put S a c a = some c := if_pos rfl
theorem put_ne {S : Sto} {a b : Addr} {c : Cell} (h : b ≠ a) : put S a c b = S b := if_neg h
theorem put_old {S : Sto} {a b : Addr} {c c' : Cell} (h : S b = some c') (n : S a = none) : put S a c b = some c' := by
  rw [put_ne]
  · exact h
  · rintro rfl
    rw [n] at h
    cases h
theorem put_put {S : Sto} {a : Addr} {c c' : Cell} : put (put S a c) a c' = put S a c' := by
  funext b
  unfold put
  split <;> rfl
theorem put_id {S : Sto} {a : Addr} {c : Cell} (h : S a = some c) : put S a c = S := by
  funext b
  unfold put
  split
  · rename_i e; rw [e, h]
  · rfl
/-- no more than -/
def Sub (S T : Sto) : Prop := ∀ a c, S a = some c → T a = some c
theorem Sub.refl (S : Sto) : Sub S S := fun _ _ h => h
theorem Sub.trans {S T U : Sto} (h : Sub S T) (k : Sub T U) : Sub S U := fun a c e => k a c (h a c e)
theorem Sub.put {S T : Sto} {a : Addr} {c : Cell} (h : Sub S T) (n : S a = none) : Sub S (put T a c) := fun b x e => by
  rw [put_ne]
  · exact h b x e
  · rintro rfl
    rw [n] at e
    cases e

mutual
inductive Dv (K : KW) (F : Hp) : V → D → Prop
  | non : Dv K F .non .non
  | bl (b : Bool) : Dv K F (.bl b) (.bl b)
  | int (i : Int) : Dv K F (.int i) (.int i)
  | str (x : Str) : Dv K F (.str x) (.str x)
  | ty (n : String) : Dv K F (.ty n) (.ty n)
  | own (a : Addr) : Dv K F (.ref a) (.own a)
  | scr {a : Addr} {ns : List Int} : SqL K.K F a (ns.map V.int) → ns.length ≤ sizeLine → Dv K F (.ref a) (.scr ns)
  | lst {a : Addr} {xs : List V} {ds : List D} : F a = some (.lst xs) → ds.length ≤ sizeLine → DvL K F xs ds → Dv K F (.ref a) (.lst ds)
  | tup {a : Addr} {xs : List V} {ds : List D} : SqT K.K F a xs → ds.length ≤ sizeLine → DvL K F xs ds → Dv K F (.ref a) (.tup ds)
  | set {a : Addr} {l : List Int} : F a = some (SetO K.w a (fun i => decide (i ∈ l)) l.length) → l.Nodup → Dv K F (.ref a) (.set l)
inductive DvL (K : KW) (F : Hp) : List V → List D → Prop
  | nil : DvL K F [] []
  | cons {v : V} {vs : List V} {d : D} {ds : List D} : Dv K F v d → DvL K F vs ds → DvL K F (v :: vs) (d :: ds)
end
theorem SqT.same {K : PySem.W.Frag} {F F' : Hp} {a : Addr} {xs : List V} (e : Same F F') (h : SqT K F a xs) : SqT K F' a xs := by
  rcases h with (h | ⟨o, h⟩) | h
  · exact Or.inl (Or.inl (e _ _ h))
  · exact Or.inl (Or.inr ⟨o, e _ _ h⟩)
  · exact Or.inr h
section
variable {K : KW} {F F' : Hp}
mutual
theorem Dv.mono (e : Same F F') : ∀ {v : V} {d : D}, Dv K F v d → Dv K F' v d
  | _, _, .non => .non
  | _, _, .bl b => .bl b
  | _, _, .int i => .int i
  | _, _, .str x => .str x
  | _, _, .ty n => .ty n
  | _, _, .own a => .own a
  | _, _, .scr h z => .scr (e.seq h) z
  | _, _, .lst h z l => .lst (e _ _ h) z (DvL.mono e l)
  | _, _, .tup h z l => .tup (SqT.same e h) z (DvL.mono e l)
  | _, _, .set h n => .set (e _ _ h) n
theorem DvL.mono (e : Same F F') : ∀ {vs : List V} {ds : List D}, DvL K F vs ds → DvL K F' vs ds
  | _, _, .nil => .nil
  | _, _, .cons h t => .cons (Dv.mono e h) (DvL.mono e t)
end
theorem DvL.len : ∀ {vs : List V} {ds : List D}, DvL K F vs ds → vs.length = ds.length
  | _, _, .nil => rfl
  | _, _, .cons _ t => congrArg Nat.succ (DvL.len t)
theorem DvL.get : ∀ {vs : List V} {ds : List D} {i : Nat} {v : V}, DvL K F vs ds → vs[i]? = some v → ∃ d, ds[i]? = some d ∧ Dv K F v d
  | _, _, _, _, .nil, e => by simp at e
  | _, _, 0, _, .cons h _, e => by simp at e; subst e; exact ⟨_, rfl, h⟩
  | _, _, i + 1, _, .cons _ t, e => by
    obtain ⟨d, e1, e2⟩ := DvL.get (i := i) t (by simpa using e)
    exact ⟨d, by simpa using e1, e2⟩
theorem DvL.getD : ∀ {vs : List V} {ds : List D} {i : Nat} {d : D}, DvL K F vs ds → ds[i]? = some d → ∃ v, vs[i]? = some v ∧ Dv K F v d
  | _, _, _, _, .nil, e => by simp at e
  | _, _, 0, _, .cons h _, e => by simp at e; subst e; exact ⟨_, rfl, h⟩
  | _, _, i + 1, _, .cons _ t, e => by
    obtain ⟨d, e1, e2⟩ := DvL.getD (i := i) t (by simpa using e)
    exact ⟨d, by simpa using e1, e2⟩
theorem DvL.append : ∀ {vs ws : List V} {ds es : List D}, DvL K F vs ds → DvL K F ws es → DvL K F (vs ++ ws) (ds ++ es)
  | _, _, _, _, .nil, k => k
  | _, _, _, _, .cons h t, k => .cons h (DvL.append t k)
theorem DvL.take : ∀ {vs : List V} {ds : List D} (n : Nat), DvL K F vs ds → DvL K F (vs.take n) (ds.take n)
  | _, _, 0, _ => .nil
  | _, _, _ + 1, .nil => .nil
  | _, _, n + 1, .cons h t => .cons h (DvL.take n t)
theorem DvL.drop : ∀ {vs : List V} {ds : List D} (n : Nat), DvL K F vs ds → DvL K F (vs.drop n) (ds.drop n)
  | _, _, 0, h => h
  | _, _, _ + 1, .nil => .nil
  | _, _, n + 1, .cons _ t => DvL.drop n t
theorem DvL.set : ∀ {vs : List V} {ds : List D} {v : V} {d : D} (i : Nat), DvL K F vs ds → Dv K F v d → DvL K F (vs.set i v) (ds.set i d)
  | _, _, _, _, _, .nil, _ => .nil
  | _, _, _, _, 0, .cons _ t, k => .cons k t
  | _, _, _, _, i + 1, .cons h t, k => .cons h (DvL.set i t k)
theorem DvL.eraseIdx : ∀ {vs : List V} {ds : List D} (i : Nat), DvL K F vs ds → DvL K F (vs.eraseIdx i) (ds.eraseIdx i)
  | _, _, _, .nil => .nil
  | _, _, 0, .cons _ t => t
  | _, _, i + 1, .cons h t => .cons h (DvL.eraseIdx i t)
theorem DvL.reverse : ∀ {vs : List V} {ds : List D}, DvL K F vs ds → DvL K F vs.reverse ds.reverse
  | _, _, .nil => .nil
  | _, _, .cons h t => by
    rw [List.reverse_cons, List.reverse_cons]
    exact (DvL.reverse t).append (.cons h .nil)
theorem DvL.ints : ∀ (ns : List Int), DvL K F (ns.map V.int) (ns.map D.int)
  | [] => .nil
  | n :: r => .cons (.int n) (DvL.ints r)
theorem DvL.toInts : ∀ {vs : List V} {ns : List Int}, DvL K F vs (ns.map D.int) → vs = ns.map V.int
  | _, [], .nil => rfl
  | _, n :: r, .cons h t => by
    cases h
    rw [DvL.toInts t]
    rfl
theorem DvL.toBls : ∀ {vs : List V} {ns : List Bool}, DvL K F vs (ns.map D.bl) → vs = ns.map V.bl
  | _, [], .nil => rfl
  | _, n :: r, .cons h t => by
    cases h
    rw [DvL.toBls t]
    rfl
theorem DvL.toStrs : ∀ {vs : List V} {ns : List Str}, DvL K F vs (ns.map D.str) → vs = ns.map V.str
  | _, [], .nil => rfl
  | _, n :: r, .cons h t => by
    cases h
    rw [DvL.toStrs t]
    rfl
end

/-- fields, a dict's pairs -/
def DvP {κ : Type} (K : KW) (F : Hp) : List (κ × V) → List (κ × D) → Prop := Paired fun p q => p.1 = q.1 ∧ Dv K F p.2 q.2
theorem DvP.mono {κ : Type} {K : KW} {F F' : Hp} (e : Same F F') : ∀ {l : List (κ × V)} {m : List (κ × D)}, DvP K F l m → DvP K F' l m
  | _, _, .nil => .nil
  | _, _, .cons h t => .cons ⟨h.1, h.2.mono e⟩ (DvP.mono e t)
theorem DvP.lookup {κ : Type} [BEq κ] {K : KW} {F : Hp} {k : κ} : ∀ {l : List (κ × V)} {m : List (κ × D)}, DvP K F l m →
    (m.lookup k = none ∧ l.lookup k = none) ∨ ∃ d v, m.lookup k = some d ∧ l.lookup k = some v ∧ Dv K F v d
  | _, _, .nil => .inl ⟨rfl, rfl⟩
  | (k1, v) :: _, (k2, d) :: _, .cons h t => by
    have e : k1 = k2 := h.1
    subst e
    simp only [List.lookup_cons]
    cases k == k1 with
    | true => exact .inr ⟨d, v, rfl, rfl, h.2⟩
    | false => exact DvP.lookup t

/-- a pot of draws: what it holds plays no part -/
def PotOk (x y : Int) : Prop := 0 ≤ x ∧ x.natAbs.log2 < 2 ^ 20 + 64 ∧ 0 ≤ y ∧ y < 2147483648

def CellOk (K : KW) (F H : Hp) (a : Addr) : Cell → Prop
  | .lst ds => ds.length ≤ sizeLine ∧ ∃ xs, H a = some (.lst xs) ∧ DvL K F xs ds
  | .dct m => m.length ≤ sizeLine ∧ ∃ l, H a = some (.dK l) ∧ DvP K F l m
  | .ins C fs => ∃ dx gs, H a = some (.ins C dx gs) ∧ DvP K F gs fs
  | .pot => ∃ x y, H a = some (.lst [.int x, .int y]) ∧ PotOk x y
theorem CellOk.mono {K : KW} {F F' H H' : Hp} {a : Addr} {c : Cell} (h : CellOk K F H a c) (e : Same F F') (k : ∀ o, H a = some o → H' a = some o) : CellOk K F' H' a c := by
  cases c with
  | lst ds => obtain ⟨z, xs, h1, h2⟩ := h; exact ⟨z, xs, k _ h1, h2.mono e⟩
  | dct m => obtain ⟨z, l, h1, h2⟩ := h; exact ⟨z, l, k _ h1, h2.mono e⟩
  | ins C fs => obtain ⟨dx, gs, h1, h2⟩ := h; exact ⟨dx, gs, k _ h1, h2.mono e⟩
  | pot => obtain ⟨x, y, h1, h2⟩ := h; exact ⟨x, y, k _ h1, h2⟩
theorem CellOk.there {K : KW} {F H : Hp} {a : Addr} {c : Cell} (h : CellOk K F H a c) : ∃ o, H a = some o := by
  cases c with
  | lst ds => obtain ⟨_, xs, h1, _⟩ := h; exact ⟨_, h1⟩
  | dct m => obtain ⟨_, l, h1, _⟩ := h; exact ⟨_, h1⟩
  | ins C fs => obtain ⟨dx, gs, h1, _⟩ := h; exact ⟨_, h1⟩
  | pot => obtain ⟨x, y, h1, _⟩ := h; exact ⟨_, h1⟩

/-- F: data; S: one's own objects; R: others' own objects, that no one touches -/
structure Sta (K : KW) (F : Hp) (S R : Sto) (H : Hp) : Prop where
  le : Same F H
  own : ∀ a c, S a = some c → F a = none ∧ CellOk K F H a c
  hid : ∀ a c, R a = some c → F a = none ∧ S a = none ∧ CellOk K F H a c
section
variable {K : KW} {F F' H H' : Hp} {S R : Sto} {p a : Addr} {o : HO} {c c' : Cell}
theorem same_upd (h : F p = none) : Same F (upd F p o) := fun b u e => by
  rw [upd_ne (ne_of_none e h)]
  exact e
theorem Sta.free (T : Sta K F S R H) (h : H p = none) : F p = none ∧ S p = none ∧ R p = none := by
  refine ⟨T.le.free h, ?_, ?_⟩
  · cases e : S p with
    | none => rfl
    | some c =>
      obtain ⟨u, hu⟩ := (T.own p c e).2.there
      rw [h] at hu
      cases hu
  · cases e : R p with
    | none => rfl
    | some c =>
      obtain ⟨u, hu⟩ := (T.hid p c e).2.2.there
      rw [h] at hu
      cases hu
/-- a new object that is data -/
theorem Sta.frozen (T : Sta K F S R H) (h : H p = none) : Sta K (upd F p o) S R (upd H p o) := by
  obtain ⟨fF, fS, fR⟩ := T.free h
  have kF : Same F (upd F p o) := same_upd fF
  have kH : Same H (upd H p o) := same_upd h
  refine ⟨fun b u e => ?_, fun b x e => ?_, fun b x e => ?_⟩
  · by_cases q : b = p
    · subst q; rw [upd_same] at e ⊢; exact e
    · rw [upd_ne q] at e ⊢; exact T.le b u e
  · have q : b ≠ p := by rintro rfl; rw [fS] at e; cases e
    obtain ⟨h1, h2⟩ := T.own b x e
    exact ⟨by rw [upd_ne q]; exact h1, h2.mono kF fun u z => kH b u z⟩
  · have q : b ≠ p := by rintro rfl; rw [fR] at e; cases e
    obtain ⟨h1, h3, h2⟩ := T.hid b x e
    exact ⟨by rw [upd_ne q]; exact h1, h3, h2.mono kF fun u z => kH b u z⟩
/-- a new object of one's own -/
theorem Sta.owned (T : Sta K F S R H) (h : H p = none) (hc : CellOk K F (upd H p o) p c) : Sta K F (put S p c) R (upd H p o) := by
  obtain ⟨fF, fS, fR⟩ := T.free h
  have kH : Same H (upd H p o) := same_upd h
  refine ⟨T.le.trans kH, fun b x e => ?_, fun b x e => ?_⟩
  · by_cases q : b = p
    · subst q; rw [put_same] at e; cases e; exact ⟨fF, hc⟩
    · rw [put_ne q] at e
      obtain ⟨h1, h2⟩ := T.own b x e
      exact ⟨h1, h2.mono (Same.refl _) fun u z => kH b u z⟩
  · have q : b ≠ p := by rintro rfl; rw [fR] at e; cases e
    obtain ⟨h1, h3, h2⟩ := T.hid b x e
    exact ⟨h1, by rw [put_ne q]; exact h3, h2.mono (Same.refl _) fun u z => kH b u z⟩
/-- one's own object is changed -/
theorem Sta.write (T : Sta K F S R H) (h : S a = some c) (hc : CellOk K F (upd H a o) a c') : Sta K F (put S a c') R (upd H a o) := by
  have fF := (T.own a c h).1
  refine ⟨fun b u e => ?_, fun b x e => ?_, fun b x e => ?_⟩
  · rw [upd_ne (ne_of_none e fF)]; exact T.le b u e
  · by_cases q : b = a
    · subst q; rw [put_same] at e; cases e; exact ⟨fF, hc⟩
    · rw [put_ne q] at e
      obtain ⟨h1, h2⟩ := T.own b x e
      exact ⟨h1, h2.mono (Same.refl _) fun u z => by rw [upd_ne q]; exact z⟩
  · have q : b ≠ a := by rintro rfl; rw [(T.hid b x e).2.1] at h; cases h
    obtain ⟨h1, h3, h2⟩ := T.hid b x e
    exact ⟨h1, by rw [put_ne q]; exact h3, h2.mono (Same.refl _) fun u z => by rw [upd_ne q]; exact z⟩
/-- what plays no part any more is forgotten -/
theorem Sta.drop {S' : Sto} (T : Sta K F S R H) (h : Sub S' S) : Sta K F S' R H :=
  ⟨T.le, fun b x e => T.own b x (h b x e), fun b x e => by
    obtain ⟨h1, h3, h2⟩ := T.hid b x e
    refine ⟨h1, ?_, h2⟩
    cases q : S' b with
    | none => rfl
    | some y => rw [h b y q] at h3; cases h3⟩
/-- a new object that is hidden -/
theorem Sta.hide (T : Sta K F S R H) (h : H p = none) (hc : CellOk K F (upd H p o) p c) : Sta K F S (put R p c) (upd H p o) := by
  obtain ⟨fF, fS, fR⟩ := T.free h
  have kH : Same H (upd H p o) := same_upd h
  refine ⟨T.le.trans kH, fun b x e => ?_, fun b x e => ?_⟩
  · obtain ⟨h1, h2⟩ := T.own b x e
    exact ⟨h1, h2.mono (Same.refl _) fun u z => kH b u z⟩
  · by_cases q : b = p
    · subst q; rw [put_same] at e; cases e; exact ⟨fF, fS, hc⟩
    · rw [put_ne q] at e
      obtain ⟨h1, h3, h2⟩ := T.hid b x e
      exact ⟨h1, h3, h2.mono (Same.refl _) fun u z => kH b u z⟩
/-- a hidden object is changed -/
theorem Sta.hwrite (T : Sta K F S (put R p c) H) (hc : CellOk K F (upd H p o) p c') : Sta K F S (put R p c') (upd H p o) := by
  obtain ⟨fF, fS, _⟩ := T.hid p c put_same
  refine ⟨fun b u e => ?_, fun b x e => ?_, fun b x e => ?_⟩
  · rw [upd_ne (ne_of_none e fF)]; exact T.le b u e
  · have q : b ≠ p := by rintro rfl; rw [fS] at e; cases e
    obtain ⟨h1, h2⟩ := T.own b x e
    exact ⟨h1, h2.mono (Same.refl _) fun u z => by rw [upd_ne q]; exact z⟩
  · by_cases q : b = p
    · subst q; rw [put_same] at e; cases e; exact ⟨fF, fS, hc⟩
    · rw [put_ne q] at e
      obtain ⟨h1, h3, h2⟩ := T.hid b x (by rw [put_ne q]; exact e)
      exact ⟨h1, h3, h2.mono (Same.refl _) fun u z => by rw [upd_ne q]; exact z⟩
/-- a hidden list becomes one's own -/
theorem Sta.show (T : Sta K F S (put R p c) H) (hR : R p = none) : Sta K F (put S p c) R H := by
  obtain ⟨fF, fS, h0⟩ := T.hid p c put_same
  refine ⟨T.le, fun b x e => ?_, fun b x e => ?_⟩
  · by_cases q : b = p
    · subst q; rw [put_same] at e; cases e; exact ⟨fF, h0⟩
    · rw [put_ne q] at e; exact T.own b x e
  · have q : b ≠ p := by rintro rfl; rw [hR] at e; cases e
    obtain ⟨h1, h3, h2⟩ := T.hid b x (by rw [put_ne q]; exact e)
    exact ⟨h1, by rw [put_ne q]; exact h3, h2⟩
/-- an object of one's own, or a hidden one, becomes data -/
theorem Sta.freeze (T : Sta K F S R H) (h : H p = some o) (hS : S p = none) (hR : R p = none) (hF : F p = none) : Sta K (upd F p o) S R H := by
  have kF : Same F (upd F p o) := same_upd hF
  refine ⟨fun b u e => ?_, fun b x e => ?_, fun b x e => ?_⟩
  · by_cases q : b = p
    · subst q; rw [upd_same] at e; rw [h]; exact e
    · rw [upd_ne q] at e; exact T.le b u e
  · have q : b ≠ p := by rintro rfl; rw [hS] at e; cases e
    obtain ⟨h1, h2⟩ := T.own b x e
    exact ⟨by rw [upd_ne q]; exact h1, h2.mono kF fun u z => z⟩
  · have q : b ≠ p := by rintro rfl; rw [hR] at e; cases e
    obtain ⟨h1, h3, h2⟩ := T.hid b x e
    exact ⟨by rw [upd_ne q]; exact h1, h3, h2.mono kF fun u z => z⟩
theorem Sta.unhide (T : Sta K F S (put R p c) H) (hR : R p = none) : Sta K F S R H :=
  ⟨T.le, T.own, fun b x e => T.hid b x (by rw [put_ne]; exact e; rintro rfl; rw [hR] at e; cases e)⟩
end
end A

/-! ## judgements: a piece of syntax, its reading over the heap, its reading over data -/
namespace A
open PySem PySem.Spec L2 PyProof.Rows

abbrev En := List (Option D)
abbrev KD := D → Sto → Prop
structure Xn where
  cls : Addr
  fs : List (Str × D)
abbrev KX := Xn → Sto → Prop
def noX : KX := fun _ _ => False

structure EnR (K : KW) (F : Hp) (σ : St) (ρ : En) : Prop where
  len : σ.length = ρ.length
  at_ : ∀ (i : Nat) (d : D), ρ[i]? = some (some d) → ∃ v, σ[i]? = some (some v) ∧ Dv K F v d
def XR (K : KW) (F H : Hp) (cls : Value) (dd : Option Addr) (x : Xn) : Prop :=
  cls = .ref x.cls ∧ ((dd = none ∧ x.fs = []) ∨ ∃ dx gs, dd = some dx ∧ H dx = some (.xd gs) ∧ DvP K F gs x.fs)

section
variable (K : KW) (F : Hp) (R : Sto)
def Post (Q : KD) (P : VK) : Prop := ∀ v H' F' S' d, Same F F' → Sta K F' S' R H' → Dv K F' v d → Q d S' → P v H'
def PostL (Q : List D → Sto → Prop) (P : List V → Hp → Prop) : Prop := ∀ vs H' F' S' ds, Same F F' → Sta K F' S' R H' → DvL K F' vs ds → Q ds S' → P vs H'
def PostB (Q : Bool → Sto → Prop) (P : Bool → Hp → Prop) : Prop := ∀ b H' F' S', Same F F' → Sta K F' S' R H' → Q b S' → P b H'
def WOk (σ : St) (W : WX) (E : KX) : Prop := ∀ cls dd H' F' S' x, Same F F' → Sta K F' S' R H' → XR K F' H' cls dd x → E x S' → W cls dd σ H'
end
section
variable {K : KW} {F F' : Hp} {R : Sto} {σ : St} {ρ : En} {W : WX} {E : KX}
theorem EnR.mono (h : EnR K F σ ρ) (e : Same F F') : EnR K F' σ ρ := ⟨h.len, fun i d q => let ⟨v, h1, h2⟩ := h.at_ i d q; ⟨v, h1, h2.mono e⟩⟩
theorem Post.mono {Q : KD} {P : VK} (h : Post K F R Q P) (e : Same F F') : Post K F' R Q P := fun v H' F2 S' d k => h v H' F2 S' d (e.trans k)
theorem PostL.mono {Q : List D → Sto → Prop} {P : List V → Hp → Prop} (h : PostL K F R Q P) (e : Same F F') : PostL K F' R Q P := fun v H' F2 S' d k => h v H' F2 S' d (e.trans k)
theorem PostB.mono {Q : Bool → Sto → Prop} {P : Bool → Hp → Prop} (h : PostB K F R Q P) (e : Same F F') : PostB K F' R Q P := fun v H' F2 S' k => h v H' F2 S' (e.trans k)
theorem WOk.mono (h : WOk K F R σ W E) (e : Same F F') : WOk K F' R σ W E := fun c dd H' F2 S' x k => h c dd H' F2 S' x (e.trans k)
theorem EnR.set (h : EnR K F σ ρ) {i : Nat} {v : V} {d : D} (q : Dv K F v d) : EnR K F (σ.set i (some v)) (ρ.set i (some d)) := by
  refine ⟨by rw [List.length_set, List.length_set]; exact h.len, fun j e hj => ?_⟩
  by_cases hi : i = j
  · subst hi
    by_cases hl : i < ρ.length
    · rw [List.getElem?_set_self hl] at hj
      cases hj
      exact ⟨v, List.getElem?_set_self (by rw [h.len]; exact hl), q⟩
    · rw [List.getElem?_eq_none (by rw [List.length_set]; omega)] at hj
      cases hj
  · rw [List.getElem?_set_ne hi] at hj
    obtain ⟨u, h1, h2⟩ := h.at_ j e hj
    exact ⟨u, by rw [List.getElem?_set_ne hi]; exact h1, h2⟩
theorem EnR.unset (h : EnR K F σ ρ) {i : Nat} : EnR K F (σ.set i none) (ρ.set i none) := by
  refine ⟨by rw [List.length_set, List.length_set]; exact h.len, fun j e hj => ?_⟩
  by_cases hi : i = j
  · subst hi
    by_cases hl : i < ρ.length
    · rw [List.getElem?_set_self hl] at hj
      cases hj
    · rw [List.getElem?_eq_none (by rw [List.length_set]; omega)] at hj
      cases hj
  · rw [List.getElem?_set_ne hi] at hj
    obtain ⟨u, h1, h2⟩ := h.at_ j e hj
    exact ⟨u, by rw [List.getElem?_set_ne hi]; exact h1, h2⟩
end

abbrev AE := En → Sto → KD → KX → Prop
abbrev AT := En → Sto → (Bool → Sto → Prop) → KX → Prop
abbrev AA := En → Sto → (List D → Sto → Prop) → KX → Prop
def RE (K : KW) (W : WX) (t : TE) (a : AE) : Prop :=
  ∀ σ H F S R ρ Q E P, Sta K F S R H → EnR K F σ ρ → WOk K F R σ W E → a ρ S Q E → Post K F R Q P → t σ H P
def RT (K : KW) (W : WX) (t : TT) (a : AT) : Prop :=
  ∀ σ H F S R ρ Q E P, Sta K F S R H → EnR K F σ ρ → WOk K F R σ W E → a ρ S Q E → PostB K F R Q P → t σ H P
def RA (K : KW) (W : WX) (t : TA) (a : AA) : Prop :=
  ∀ σ H F S R ρ Q E P, Sta K F S R H → EnR K F σ ρ → WOk K F R σ W E → a ρ S Q E → PostL K F R Q P → t σ H P

structure EA (X : Cx) (W : WX) (e : Expr) (t : TE) (a : AE) : Prop where
  pe : PE X e t
  re : RE X.kw W t a
structure TstA (X : Cx) (W : WX) (e : Expr) (t : TT) (a : AT) : Prop where
  pt : PT X e t
  rt : RT X.kw W t a
structure ArA (X : Cx) (W : WX) (es : List Expr) (t : TA) (a : AA) : Prop where
  pa : PA X es t
  ra : RA X.kw W t a

/-! ### by values -/
abbrev O2 := D → D → Sto → KD → Prop
abbrev O1 := D → Sto → KD → Prop
abbrev ON := List D → Sto → KD → Prop
def R2k (K : KW) (r : R2) (a : O2) : Prop := ∀ x y d e H F S R Q P, Sta K F S R H → Dv K F x d → Dv K F y e → a d e S Q → Post K F R Q P → r x y H P
def R1k (K : KW) (r : V → Hp → VK → Prop) (a : O1) : Prop := ∀ x d H F S R Q P, Sta K F S R H → Dv K F x d → a d S Q → Post K F R Q P → r x H P
def RNk (K : KW) (r : List V → Hp → VK → Prop) (a : ON) : Prop := ∀ xs ds H F S R Q P, Sta K F S R H → DvL K F xs ds → a ds S Q → Post K F R Q P → r xs H P
def aOp (a2 : O2) (a b : AE) : AE := fun ρ S Q E => a ρ S (fun d S1 => b ρ S1 (fun e S2 => a2 d e S2 Q) E) E
def aUn (a1 : O1) (a : AE) : AE := fun ρ S Q E => a ρ S (fun d S1 => a1 d S1 Q) E
section
variable {X : Cx} {W : WX} {a b e : Expr} {ta tb : TE} {aa ab : AE} {pos : Pos}
theorem re_op {r : R2} {a2 : O2} (hr : R2k X.kw r a2) (ha : RE X.kw W ta aa) (hb : RE X.kw W tb ab) : RE X.kw W (tOp r ta tb) (aOp a2 aa ab) :=
  fun σ H F S R ρ Q E P T en wo h po => ha σ H F S R ρ _ E _ T en wo h fun v H1 F1 S1 d e1 T1 dv q =>
    hb σ H1 F1 S1 R ρ _ E _ T1 (en.mono e1) (wo.mono e1) q fun u H2 F2 S2 d2 e2 T2 dv2 q2 => hr v u d d2 H2 F2 S2 R Q P T2 (dv.mono e2) dv2 q2 (po.mono (e1.trans e2))
theorem re_un {r : V → Hp → VK → Prop} {a1 : O1} (hr : R1k X.kw r a1) (ha : RE X.kw W ta aa) : RE X.kw W (tUn r ta) (aUn a1 aa) :=
  fun σ H F S R ρ Q E P T en wo h po => ha σ H F S R ρ _ E _ T en wo h fun v H1 F1 S1 d e1 T1 dv q => hr v d H1 F1 S1 R Q P T1 dv q (po.mono e1)
/-- an operator: its rule, and what it is of data -/
structure OpA (X : Cx) (f : Value → Value → Sem Value) (r : R2) (a : O2) : Prop where
  op : OpR X f r
  k : R2k X.kw r a
structure UnA (X : Cx) (f : Value → Sem Value) (r : V → Hp → VK → Prop) (a : O1) : Prop where
  op : UnR X f r
  k : R1k X.kw r a
structure CallA (X : Cx) (f : Value) (r : List V → Hp → VK → Prop) (a : ON) : Prop where
  op : CallR X f r
  k : RNk X.kw r a
theorem ea_op {op : Operator} {r : R2} {a2 : O2} (o : OpA X (binaryOp op) r a2) (ha : EA X W a ta aa) (hb : EA X W b tb ab) : EA X W (.BinOp a op b pos) (tOp r ta tb) (aOp a2 aa ab) :=
  ⟨pe_op o.op ha.pe hb.pe, re_op o.k ha.re hb.re⟩
theorem ea_un {op : UnaryOp} {r : V → Hp → VK → Prop} {a1 : O1} (o : UnA X (unaryOp op) r a1) (ha : EA X W a ta aa) : EA X W (.UnaryOp op a pos) (tUn r ta) (aUn a1 aa) :=
  ⟨pe_un o.op ha.pe, re_un o.k ha.re⟩
theorem ea_cmp {op : CmpOp} {r : R2} {a2 : O2} (o : OpA X (compareOp op) r a2) (ha : EA X W a ta aa) (hb : EA X W b tb ab) (hm : behindInMarks op b = false := by first | rfl | exact nomark _) :
    EA X W (.Compare a [op] [b] pos) (tOp r ta tb) (aOp a2 aa ab) := ⟨pe_cmpR o.op ha.pe hb.pe hm, re_op o.k ha.re hb.re⟩

/-! ### names, constants -/
def atV : Option (Option D) → (D → Prop) → Prop
  | some (some d), Q => Q d
  | _, _ => False
theorem atV_ok {o : Option (Option D)} {Q : D → Prop} (h : atV o Q) : ∃ d, o = some (some d) ∧ Q d := by
  cases o with
  | none => exact (show False from h).elim
  | some o => cases o with
    | none => exact (show False from h).elim
    | some d => exact ⟨d, rfl, h⟩
def onB (f : Bool → Sto → Prop) : D → Sto → Prop
  | .bl b, S => f b S
  | _, _ => False
def onI (f : Int → Sto → Prop) : D → Sto → Prop
  | .int i, S => f i S
  | _, _ => False
def onII (f : Int → Int → Prop) : D → D → Prop
  | .int i, .int j => f i j
  | _, _ => False
def onL1 (f : Int → Prop) : List D → Prop
  | [.int i] => f i
  | _ => False
def onL2 (f : Int → Int → Prop) : List D → Prop
  | [.int i, .int j] => f i j
  | _ => False
def aVar (i : Nat) : AE := fun ρ S Q _ => atV ρ[i]? fun d => Q d S
def aC (d : D) : AE := fun _ S Q _ => Q d S
theorem ea_v (i : Nat) {x : Str} (hN : X.N[i]? = some x := by rfl) (hv : Vis X.env.scope x := by first | exact Or.inl rfl | exact Or.inr (Or.inl rfl) | exact Or.inr (Or.inr rfl))
    (hd : (x == ("__debug__" : Str)) = false := by decide) (hc : (x == ("__classdict__" : Str)) = false := by decide) : EA X W (.Name x pos) (tVar i) (aVar i) := by
  refine ⟨pe_var hN hv hd hc, fun σ H F S R ρ Q E P T en wo h po => ?_⟩
  obtain ⟨d, q, h'⟩ := atV_ok h
  obtain ⟨v, h1, h2⟩ := en.at_ i d q
  exact ⟨v, h1, po v H F S d (Same.refl _) T h2 h'⟩
theorem re_c {v : V} {d : D} (h : ∀ F, Dv X.kw F v d) : RE X.kw W (tC v) (aC d) := fun σ H F S R ρ Q E P T en wo q po => po v H F S d (Same.refl _) T (h F) q
theorem ea_int {i : Int} {j : Nat} : EA X W (.Constant (.int i) j pos) (tC (.int i)) (aC (.int i)) := ⟨pe_int, re_c fun _ => .int i⟩
theorem ea_bl {b : Bool} {j : Nat} : EA X W (.Constant (.bool b) j pos) (tC (.bl b)) (aC (.bl b)) := ⟨pe_bl, re_c fun _ => .bl b⟩
theorem ea_non {j : Nat} : EA X W (.Constant .none j pos) (tC .non) (aC .non) := ⟨pe_non, re_c fun _ => .non⟩
theorem ea_str {x : Str} {j : Nat} : EA X W (.Constant (.str x) j pos) (tC (.str x)) (aC (.str x)) := ⟨pe_str, re_c fun _ => .str x⟩
/-- a module's constant; a def or class as a value -/
theorem ea_glob {x : Str} {v : V} {u : Value} {d : D} (hm : X.mg x = some u) (r : RelV v u) (h : ∀ F, Dv X.kw F v d) (hg : Gl X x := by rfl) (hd : (x == ("__debug__" : Str)) = false := by decide) : EA X W (.Name x pos) (tC v) (aC d) :=
  ⟨pe_glob hg hm r hd, re_c h⟩
theorem ea_gint {x : Str} {i : Int} (hm : ∃ t, X.mg x = some (.int i t)) (hg : Gl X x := by rfl) (hd : (x == ("__debug__" : Str)) = false := by decide) : EA X W (.Name x pos) (tC (.int i)) (aC (.int i)) := by
  obtain ⟨t, h⟩ := hm
  exact ea_glob h ⟨t, rfl⟩ (fun _ => .int i) hg hd
theorem ea_gstr {x y : Str} (hm : ∃ t, X.mg x = some (.str y t)) (hg : Gl X x := by rfl) (hd : (x == ("__debug__" : Str)) = false := by decide) : EA X W (.Name x pos) (tC (.str y)) (aC (.str y)) := by
  obtain ⟨t, h⟩ := hm
  exact ea_glob h ⟨t, rfl⟩ (fun _ => .str y) hg hd
theorem ea_gref {x : Str} {f : Addr} (hm : X.mg x = some (.ref f)) (hg : Gl X x := by rfl) (hd : (x == ("__debug__" : Str)) = false := by decide) : EA X W (.Name x pos) (tC (.ref f)) (aC (.own f)) :=
  ea_glob hm rfl (fun _ => .own f) hg hd

/-! ### arguments, displays -/
def aNil : AA := fun _ S Q _ => Q [] S
def aCons (a : AE) (r : AA) : AA := fun ρ S Q E => a ρ S (fun d S1 => r ρ S1 (fun ds S2 => Q (d :: ds) S2) E) E
theorem ar_nil : ArA X W [] tNil aNil := ⟨pa_nil, fun σ H F S R ρ Q E P T en wo h po => po [] H F S [] (Same.refl _) T .nil h⟩
theorem ar_cons {es : List Expr} {te : TE} {t : TA} {ae : AE} {ar : AA} (ha : EA X W e te ae) (hr : ArA X W es t ar) (hs : starEach (e :: es) X.env = (false, eval e X.env) :: starEach es X.env := by rfl) :
    ArA X W (e :: es) (tCons te t) (aCons ae ar) :=
  ⟨pa_cons ha.pe hr.pa hs, fun σ H F S R ρ Q E P T en wo h po => ha.re σ H F S R ρ _ E _ T en wo h fun v H1 F1 S1 d e1 T1 dv q =>
    hr.ra σ H1 F1 S1 R ρ _ E _ T1 (en.mono e1) (wo.mono e1) q fun vs H2 F2 S2 ds e2 T2 dvs q2 => po (v :: vs) H2 F2 S2 (d :: ds) (e1.trans e2) T2 (.cons (dv.mono e2) dvs) q2⟩
/-- a new list: data at once, or one's own -/
def NewL (ds : List D) (S : Sto) (Q : KD) : Prop := Q (.lst ds) S ∨ ∀ a, S a = none → Q (.own a) (put S a (.lst ds))
theorem newL_ok {K : KW} {F H : Hp} {S R : Sto} {vs : List V} {ds : List D} {Q : KD} {P : VK} (T : Sta K F S R H) (h : DvL K F vs ds) (z : ds.length ≤ sizeLine) (q : NewL ds S Q) (po : Post K F R Q P) :
    ∀ p, H p = none → P (.ref p) (upd H p (.lst vs)) := fun p hp => by
  obtain ⟨fF, fS, fR⟩ := T.free hp
  rcases q with q | q
  · exact po _ _ _ S (.lst ds) (same_upd fF) (T.frozen hp) (.lst upd_same z (h.mono (same_upd fF))) q
  · exact po _ _ F _ (.own p) (Same.refl _) (T.owned (c := .lst ds) hp ⟨z, vs, upd_same, h⟩) (.own p) (q p fS)
theorem newT_ok {K : KW} {F H : Hp} {S R : Sto} {vs : List V} {ds : List D} {Q : KD} {P : VK} (T : Sta K F S R H) (h : DvL K F vs ds) (z : ds.length ≤ sizeLine) (q : Q (.tup ds) S) (po : Post K F R Q P) :
    ∀ p, H p = none → P (.ref p) (upd H p (.tup vs)) := fun p hp => by
  obtain ⟨fF, fS, fR⟩ := T.free hp
  exact po _ _ _ S (.tup ds) (same_upd fF) (T.frozen hp) (.tup (SqT.of upd_same) z (h.mono (same_upd fF))) q
def aTup (a : AA) : AE := fun ρ S Q E => a ρ S (fun ds S1 => ds.length ≤ sizeLine ∧ Q (.tup ds) S1) E
def aLst (a : AA) : AE := fun ρ S Q E => a ρ S (fun ds S1 => ds.length ≤ sizeLine ∧ NewL ds S1 Q) E
theorem ea_tup {es : List Expr} {t : TA} {ar : AA} {k : Nat} (h : ArA X W es t ar) : EA X W (.Tuple es k pos) (tTup t) (aTup ar) :=
  ⟨pe_tup h.pa, fun σ H F S R ρ Q E P T en wo q po => h.ra σ H F S R ρ _ E _ T en wo q fun vs H1 F1 S1 ds e1 T1 dvs q1 =>
    ⟨by rw [dvs.len]; exact q1.1, newT_ok T1 dvs q1.1 q1.2 (po.mono e1)⟩⟩
theorem ea_lst {es : List Expr} {t : TA} {ar : AA} (h : ArA X W es t ar) : EA X W (.List es pos) (tLst t) (aLst ar) :=
  ⟨pe_lst h.pa, fun σ H F S R ρ Q E P T en wo q po => h.ra σ H F S R ρ _ E _ T en wo q fun vs H1 F1 S1 ds e1 T1 dvs q1 =>
    ⟨by rw [dvs.len]; exact q1.1, newL_ok T1 dvs q1.1 q1.2 (po.mono e1)⟩⟩
/-- a built-in function or type, called -/
def aCB (r : ON) (a : AA) : AE := fun ρ S Q E => a ρ S (fun ds S1 => r ds S1 Q) E
theorem re_callB {r : List V → Hp → VK → Prop} {o : ON} {t : TA} {ar : AA} (hr : RNk X.kw r o) (h : RA X.kw W t ar) : RE X.kw W (tCB r t) (aCB o ar) :=
  fun σ H F S R ρ Q E P T en wo q po => h σ H F S R ρ _ E _ T en wo q fun vs H1 F1 S1 ds e1 T1 dvs q1 => hr vs ds H1 F1 S1 R Q P T1 dvs q1 (po.mono e1)
theorem ea_callB {id : String} {x : Str} {p : Pos} {es : List Expr} {r : List V → Hp → VK → Prop} {o : ON} {t : TA} {ar : AA} (c : CallA X (.builtin id) r o) (hm : X.mg x = none) (h : ArA X W (e :: es) t ar) (hv : bootBuiltins x = some (.builtin id) := by decide +kernel) (hg : Gl X x := by rfl)
    (hn : x ≠ "__name__" := by decide) (hdb : (x == ("__debug__" : Str)) = false := by decide)
    (he : starEach (e :: es) X.env = (false, eval e X.env) :: starEach es X.env := by rfl) (hpl : (backTo pos (starEach es X.env)).any (·.1) = false := by rfl) :
    EA X W (.Call (.Name x p) (e :: es) [] pos) (tCB r t) (aCB o ar) := ⟨pe_callB c.op hg hm hv h.pa hn hdb he hpl, re_callB c.k h.ra⟩
theorem ea_callTy {id : String} {x : Str} {p : Pos} {es : List Expr} {r : List V → Hp → VK → Prop} {o : ON} {t : TA} {ar : AA} (c : CallA X (.type id) r o) (hm : X.mg x = none) (h : ArA X W (e :: es) t ar) (hv : bootBuiltins x = some (.type id) := by decide +kernel) (hg : Gl X x := by rfl)
    (hn : x ≠ "__name__" := by decide) (hdb : (x == ("__debug__" : Str)) = false := by decide)
    (he : starEach (e :: es) X.env = (false, eval e X.env) :: starEach es X.env := by rfl) (hpl : (backTo pos (starEach es X.env)).any (·.1) = false := by rfl) :
    EA X W (.Call (.Name x p) (e :: es) [] pos) (tCB r t) (aCB o ar) := ⟨pe_callTy c.op hg hm hv h.pa hn hdb he hpl, re_callB c.k h.ra⟩

/-! ### tests -/
def aNot (a : AT) : AT := fun ρ S Q E => a ρ S (fun b S1 => Q (!b) S1) E
def aAnd (a b : AT) : AT := fun ρ S Q E => a ρ S (fun c S1 => if c = true then b ρ S1 Q E else Q false S1) E
def aOr (a b : AT) : AT := fun ρ S Q E => a ρ S (fun c S1 => if c = true then Q true S1 else b ρ S1 Q E) E
def aTst (a : AE) : AT := fun ρ S Q E => a ρ S (onB Q) E
theorem re_bl {P : Bool → Hp → Prop} {Q : Bool → Sto → Prop} {K : KW} {F : Hp} {R : Sto} (po : PostB K F R Q P) : Post K F R (onB Q) (fun x H' => ∃ k, x = .bl k ∧ P k H') := by
  intro v H' F' S' d e T dv q
  cases dv with
  | bl b => exact ⟨b, rfl, po b H' F' S' e T q⟩
  | _ => exact (show False from q).elim
theorem ta_cmp {op : CmpOp} {r : R2} {a2 : O2} (o : OpA X (compareOp op) r a2) (ha : EA X W a ta aa) (hb : EA X W b tb ab) (hm : behindInMarks op b = false := by first | rfl | exact nomark _) :
    TstA X W (.Compare a [op] [b] pos) (tTest (tOp r ta tb)) (aTst (aOp a2 aa ab)) :=
  ⟨pt_cmpR o.op ha.pe hb.pe hm, fun σ H F S R ρ Q E P T en wo q po => re_op o.k ha.re hb.re σ H F S R ρ _ E _ T en wo q (re_bl po)⟩
/-- an expression whose value is a truth -/
theorem ta_val {t : TE} (h : EA X W e t aa) (he : ∀ whole, isTrue e X.env whole = (do let v ← whole; standAt e.pos; holding [v] (truthy v)) := by intros; rfl) : TstA X W e (tB t) (aTst aa) :=
  ⟨pt_val h.pe he, fun σ H F S R ρ Q E P T en wo q po => h.re σ H F S R ρ _ E _ T en wo q (re_bl po)⟩
variable {t1 t2 : TT} {a1 a2 : AT}
theorem ta_not (h : TstA X W a t1 a1) : TstA X W (.UnaryOp .Not a pos) (tNot t1) (aNot a1) :=
  ⟨pt_not h.pt, fun σ H F S R ρ Q E P T en wo q po => h.rt σ H F S R ρ _ E _ T en wo q fun b H' F' S' e1 T1 q1 => po (!b) H' F' S' e1 T1 q1⟩
structure WstA (X : Cx) (W : WX) (e : Expr) (t : TT) (a : AT) : Prop where
  pw : PW X e t
  rt : RT X.kw W t a
theorem WstA.t {e : Expr} (h : WstA X W e t1 a1) : TstA X W e t1 a1 := ⟨h.pw.pt, h.rt⟩
theorem wa_and1 (h : TstA X W a t1 a1) : WstA X W (.BoolOp .And [a] pos) t1 a1 := ⟨pw_and1 h.pt, h.rt⟩
theorem wa_or1 (h : TstA X W a t1 a1) : WstA X W (.BoolOp .Or [a] pos) t1 a1 := ⟨pw_or1 h.pt, h.rt⟩
theorem wa_and {rest : List Expr} (h : TstA X W a t1 a1) (k : WstA X W (.BoolOp .And (b :: rest) pos) t2 a2) : WstA X W (.BoolOp .And (a :: b :: rest) pos) (tAnd t1 t2) (aAnd a1 a2) := by
  refine ⟨pw_and h.pt k.pw, fun σ H F S R ρ Q E P T en wo q po => h.rt σ H F S R ρ _ E _ T en wo q fun c H1 F1 S1 e1 T1 q1 => ?_⟩
  cases c with
  | true => exact k.rt σ H1 F1 S1 R ρ Q E P T1 (en.mono e1) (wo.mono e1) q1 (po.mono e1)
  | false => exact po false H1 F1 S1 e1 T1 q1
theorem wa_or {rest : List Expr} (h : TstA X W a t1 a1) (k : WstA X W (.BoolOp .Or (b :: rest) pos) t2 a2) : WstA X W (.BoolOp .Or (a :: b :: rest) pos) (tOr t1 t2) (aOr a1 a2) := by
  refine ⟨pw_or h.pt k.pw, fun σ H F S R ρ Q E P T en wo q po => h.rt σ H F S R ρ _ E _ T en wo q fun c H1 F1 S1 e1 T1 q1 => ?_⟩
  cases c with
  | true => exact po true H1 F1 S1 e1 T1 q1
  | false => exact k.rt σ H1 F1 S1 R ρ Q E P T1 (en.mono e1) (wo.mono e1) q1 (po.mono e1)
/-- .. as values -/
def aIfE (c : AT) (a b : AE) : AE := fun ρ S Q E => c ρ S (fun k S1 => if k = true then a ρ S1 Q E else b ρ S1 Q E) E
theorem ea_if {c : Expr} (hc : TstA X W c t1 a1) (ha : EA X W a ta aa) (hb : EA X W b tb ab) : EA X W (.IfExp c a b pos) (tIf t1 ta tb) (aIfE a1 aa ab) := by
  refine ⟨pe_ifExp hc.pt ha.pe hb.pe, fun σ H F S R ρ Q E P T en wo q po => hc.rt σ H F S R ρ _ E _ T en wo q fun k H1 F1 S1 e1 T1 q1 => ?_⟩
  cases k with
  | true => exact ha.re σ H1 F1 S1 R ρ Q E P T1 (en.mono e1) (wo.mono e1) q1 (po.mono e1)
  | false => exact hb.re σ H1 F1 S1 R ρ Q E P T1 (en.mono e1) (wo.mono e1) q1 (po.mono e1)
def aAndV (a b : AE) : AE := fun ρ S Q E => a ρ S (onB fun c S1 => if c = true then b ρ S1 Q E else Q (.bl false) S1) E
def aOrV (a b : AE) : AE := fun ρ S Q E => a ρ S (onB fun c S1 => if c = true then Q (.bl true) S1 else b ρ S1 Q E) E
def aNotV (a : AE) : AE := fun ρ S Q E => a ρ S (onB fun c S1 => Q (.bl (!c)) S1) E
theorem ea_one {op : BoolOp} (h : EA X W a ta aa) : EA X W (.BoolOp op [a] pos) ta aa := ⟨pe_one h.pe, h.re⟩
theorem ea_and {rest : List Expr} (h : EA X W a ta aa) (k : EA X W (.BoolOp .And (b :: rest) pos) tb ab) : EA X W (.BoolOp .And (a :: b :: rest) pos) (tAndV ta tb) (aAndV aa ab) := by
  refine ⟨pe_and h.pe k.pe, fun σ H F S R ρ Q E P T en wo q po => h.re σ H F S R ρ _ E _ T en wo q fun v H1 F1 S1 d e1 T1 dv q1 => ?_⟩
  cases dv with
  | bl c =>
    refine ⟨c, rfl, ?_⟩
    cases c with
    | true => exact k.re σ H1 F1 S1 R ρ Q E P T1 (en.mono e1) (wo.mono e1) q1 (po.mono e1)
    | false => exact po (.bl false) H1 F1 S1 _ e1 T1 (.bl false) q1
  | _ => exact (show False from q1).elim
theorem ea_or {rest : List Expr} (h : EA X W a ta aa) (k : EA X W (.BoolOp .Or (b :: rest) pos) tb ab) : EA X W (.BoolOp .Or (a :: b :: rest) pos) (tOrV ta tb) (aOrV aa ab) := by
  refine ⟨pe_or h.pe k.pe, fun σ H F S R ρ Q E P T en wo q po => h.re σ H F S R ρ _ E _ T en wo q fun v H1 F1 S1 d e1 T1 dv q1 => ?_⟩
  cases dv with
  | bl c =>
    refine ⟨c, rfl, ?_⟩
    cases c with
    | true => exact po (.bl true) H1 F1 S1 _ e1 T1 (.bl true) q1
    | false => exact k.re σ H1 F1 S1 R ρ Q E P T1 (en.mono e1) (wo.mono e1) q1 (po.mono e1)
  | _ => exact (show False from q1).elim
theorem ea_not (h : EA X W a ta aa) : EA X W (.UnaryOp .Not a pos) (tNotV ta) (aNotV aa) := by
  refine ⟨pe_not h.pe, fun σ H F S R ρ Q E P T en wo q po => h.re σ H F S R ρ _ E _ T en wo q fun v H1 F1 S1 d e1 T1 dv q1 => ?_⟩
  cases dv with
  | bl c => exact ⟨c, rfl, po _ H1 F1 S1 _ e1 T1 (.bl _) q1⟩
  | _ => exact (show False from q1).elim
/-- a < b < c -/
def aChn (r r' : O2) (a b c : AE) : AE := fun ρ S Q E => a ρ S (fun d S1 => b ρ S1 (fun e S2 => r d e S2 (onB fun k S3 => if k = true then c ρ S3 (fun g S4 => r' e g S4 Q) E else Q (.bl false) S3)) E) E
theorem re_chain {tc : TE} {ac : AE} {r r' : R2} {o o' : O2} (hr : R2k X.kw r o) (hr' : R2k X.kw r' o') (ha : RE X.kw W ta aa) (hb : RE X.kw W tb ab) (hc : RE X.kw W tc ac) : RE X.kw W (tChain r r' ta tb tc) (aChn o o' aa ab ac) := by
  intro σ H F S R ρ Q E P T en wo q po
  refine ha σ H F S R ρ _ E _ T en wo q fun x H1 F1 S1 d e1 T1 dx q1 => ?_
  refine hb σ H1 F1 S1 R ρ _ E _ T1 (en.mono e1) (wo.mono e1) q1 fun y H2 F2 S2 e e2 T2 dy q2 => ?_
  have e12 := e1.trans e2
  refine hr x y d e H2 F2 S2 R _ _ T2 (dx.mono e2) dy q2 fun z H3 F3 S3 g e3 T3 dz q3 => ?_
  have e13 := e12.trans e3
  cases dz with
  | bl k =>
    refine ⟨k, rfl, ?_⟩
    cases k with
    | true => exact hc σ H3 F3 S3 R ρ _ E _ T3 (en.mono e13) (wo.mono e13) q3 fun u H4 F4 S4 g e4 T4 du q4 => hr' y u e g H4 F4 S4 R Q P T4 (dy.mono (e3.trans e4)) du q4 (po.mono (e13.trans e4))
    | false => exact po _ H3 F3 S3 _ e13 T3 (.bl false) q3
  | _ => exact (show False from q3).elim
theorem ea_chain {c : Expr} {tc : TE} {ac : AE} {op op' : CmpOp} {r r' : R2} {o o' : O2} (h : OpA X (compareOp op) r o) (h' : OpA X (compareOp op') r' o') (ha : EA X W a ta aa) (hb : EA X W b tb ab) (hc : EA X W c tc ac)
    (hm : lastMarks [op, op'] [b, c] = false := by rfl) : EA X W (.Compare a [op, op'] [b, c] pos) (tChain r r' ta tb tc) (aChn o o' aa ab ac) :=
  ⟨pe_chain h.op h'.op ha.pe hb.pe hc.pe hm, re_chain h.k h'.k ha.re hb.re hc.re⟩
end
end A

/-! ## statements, loops, comprehensions -/
namespace A
open PySem PySem.Spec L2 PyProof.Rows

structure AEnds where
  nx : En → Sto → Prop
  rt : KD
  bk : En → Sto → Prop := fun _ _ => False
  ct : En → Sto → Prop := fun _ _ => False
  xx : En → KX := fun _ _ _ => False
abbrev AS := AEnds → En → Sto → Prop
def PostN (K : KW) (F : Hp) (R : Sto) (Q : En → Sto → Prop) (P : St → Hp → Prop) : Prop :=
  ∀ σ' H' F' S' ρ', Same F F' → Sta K F' S' R H' → EnR K F' σ' ρ' → Q ρ' S' → P σ' H'
structure DnR (K : KW) (F : Hp) (R : Sto) (Da : AEnds) (Dc : Ends) : Prop where
  nx : PostN K F R Da.nx Dc.nx
  rt : Post K F R Da.rt Dc.rt
  bk : PostN K F R Da.bk Dc.bk
  ct : PostN K F R Da.ct Dc.ct
def WOkS (K : KW) (F : Hp) (R : Sto) (W : WX) (E : En → KX) : Prop :=
  ∀ cls dd σ' H' F' S' ρ' x, Same F F' → Sta K F' S' R H' → EnR K F' σ' ρ' → XR K F' H' cls dd x → E ρ' x S' → W cls dd σ' H'
def RS (K : KW) (W : WX) (t : TS) (a : AS) : Prop :=
  ∀ σ H F S R ρ Da Dc, Sta K F S R H → EnR K F σ ρ → WOkS K F R W Da.xx → DnR K F R Da Dc → a Da ρ S → t Dc σ H
section
variable {K : KW} {F F' : Hp} {R : Sto} {σ : St} {ρ : En} {W : WX}
theorem PostN.mono {Q : En → Sto → Prop} {P : St → Hp → Prop} (h : PostN K F R Q P) (e : Same F F') : PostN K F' R Q P := fun σ' H' F2 S' ρ' k => h σ' H' F2 S' ρ' (e.trans k)
theorem DnR.mono {Da : AEnds} {Dc : Ends} (h : DnR K F R Da Dc) (e : Same F F') : DnR K F' R Da Dc := ⟨h.nx.mono e, h.rt.mono e, h.bk.mono e, h.ct.mono e⟩
theorem WOkS.mono {E : En → KX} (h : WOkS K F R W E) (e : Same F F') : WOkS K F' R W E := fun c dd σ' H' F2 S' ρ' x k => h c dd σ' H' F2 S' ρ' x (e.trans k)
theorem WOkS.at_ {E : En → KX} (h : WOkS K F R W E) (en : EnR K F σ ρ) : WOk K F R σ W (E ρ) := fun c dd H' F2 S' x e T xr q => h c dd σ H' F2 S' ρ x e T (en.mono e) xr q
end
structure SA (X : Cx) (W : WX) (st : Stmt) (t : TS) (a : AS) : Prop where
  ps : PS X st t
  rs : RS X.kw W t a
structure SsA (X : Cx) (W : WX) (sts : List Stmt) (t : TS) (a : AS) : Prop where
  ps : PSs X sts t
  rs : RS X.kw W t a

section
variable {X : Cx} {W : WX} {st : Stmt} {rest : List Stmt} {t u : TS} {a b : AS} {e c : Expr} {te : TE} {ae : AE} {tc : TT} {ac : AT} {pos : Pos}
def aNext : AS := fun D ρ S => D.nx ρ S
def aSeq (a b : AS) : AS := fun D ρ S => a { D with nx := fun ρ' S' => b D ρ' S' } ρ S
theorem rs_next : RS X.kw W tNext aNext := fun σ H F S R ρ Da Dc T en wo dn h => dn.nx σ H F S ρ (Same.refl _) T en h
theorem ss_nil : SsA X W [] tNext aNext := ⟨pss_nil, rs_next⟩
theorem ss_cons (h1 : SA X W st t a) (h2 : SsA X W rest u b) : SsA X W (st :: rest) (tSeq t u) (aSeq a b) :=
  ⟨pss_cons h1.ps h2.ps, fun σ H F S R ρ Da Dc T en wo dn h => h1.rs σ H F S R ρ { Da with nx := fun ρ' S' => b Da ρ' S' } { Dc with nx := u Dc } T en wo
    ⟨fun σ' H' F' S' ρ' e T' en' q => h2.rs σ' H' F' S' R ρ' Da Dc T' en' (wo.mono e) (dn.mono e) q, dn.rt, dn.bk, dn.ct⟩ h⟩
theorem ss_one (h1 : SA X W st t a) : SsA X W [st] t a := ⟨pss_one h1.ps, h1.rs⟩
theorem s_pass : SA X W (.Pass pos) tNext aNext := ⟨ps_pass, rs_next⟩
theorem s_doc {x j pos pos'} : SA X W (.Expr (.Constant (.str x) j pos) pos') tNext aNext := ⟨ps_doc, rs_next⟩
def aBreak : AS := fun D ρ S => D.bk ρ S
def aCont : AS := fun D ρ S => D.ct ρ S
theorem s_break : SA X W (.Break pos) tBreak aBreak := ⟨ps_break, fun σ H F S R ρ Da Dc T en wo dn h => dn.bk σ H F S ρ (Same.refl _) T en h⟩
theorem s_cont : SA X W (.Continue pos) tCont aCont := ⟨ps_continue, fun σ H F S R ρ Da Dc T en wo dn h => dn.ct σ H F S ρ (Same.refl _) T en h⟩
def aNever : AS := fun _ _ _ => False
theorem s_never : SA X W st tNever aNever := ⟨ps_never, fun σ H F S R ρ Da Dc T en wo dn h => h.elim⟩
theorem ss_never : SsA X W rest tNever aNever := ⟨pss_never, fun σ H F S R ρ Da Dc T en wo dn h => h.elim⟩
def aDrop (a : AE) : AS := fun D ρ S => a ρ S (fun _ S1 => D.nx ρ S1) (D.xx ρ)
theorem s_expr (h : EA X W e te ae) (hs : swapsWith e none pos.line X.env = pure false := by rfl) : SA X W (.Expr e pos) (tDrop te) (aDrop ae) :=
  ⟨ps_expr h.pe hs, fun σ H F S R ρ Da Dc T en wo dn q => h.re σ H F S R ρ _ _ _ T en (wo.at_ en) q fun v H' F' S' d e1 T1 dv q1 => dn.nx σ H' F' S' ρ e1 T1 (en.mono e1) q1⟩
def aRet (a : AE) : AS := fun D ρ S => a ρ S D.rt (D.xx ρ)
theorem s_ret (h : EA X W e te ae) : SA X W (.Return (some e) pos) (tRet te) (aRet ae) :=
  ⟨ps_ret h.pe, fun σ H F S R ρ Da Dc T en wo dn q => h.re σ H F S R ρ _ _ _ T en (wo.at_ en) q dn.rt⟩
def aRetN : AS := fun D _ S => D.rt .non S
theorem s_retN : SA X W (.Return none pos) tRetN aRetN := ⟨ps_retN, fun σ H F S R ρ Da Dc T en wo dn q => dn.rt .non H F S .non (Same.refl _) T .non q⟩
def aIf (c : AT) (a b : AS) : AS := fun D ρ S => c ρ S (fun k S1 => if k = true then a D ρ S1 else b D ρ S1) (D.xx ρ)
theorem s_if {l r : List Stmt} (hc : TstA X W c tc ac) (ha : SsA X W l t a) (hb : SsA X W r u b) : SA X W (.If c l r pos) (tIfS tc t u) (aIf ac a b) := by
  refine ⟨ps_if hc.pt ha.ps hb.ps, fun σ H F S R ρ Da Dc T en wo dn q => hc.rt σ H F S R ρ _ _ _ T en (wo.at_ en) q fun k H1 F1 S1 e1 T1 q1 => ?_⟩
  cases k with
  | true => exact ha.rs σ H1 F1 S1 R ρ Da Dc T1 (en.mono e1) (wo.mono e1) (dn.mono e1) q1
  | false => exact hb.rs σ H1 F1 S1 R ρ Da Dc T1 (en.mono e1) (wo.mono e1) (dn.mono e1) q1

/-! ### targets -/
abbrev AG := D → En → Sto → (En → Sto → Prop) → KX → Prop
abbrev AGs := List D → En → Sto → (En → Sto → Prop) → KX → Prop
def RG (K : KW) (W : WX) (t : TG) (a : AG) : Prop :=
  ∀ v d σ H F S R ρ Q E P, Sta K F S R H → EnR K F σ ρ → WOk K F R σ W E → Dv K F v d → a d ρ S Q E → PostN K F R Q P → t v σ H P
def RGs (K : KW) (W : WX) (t : TGs) (a : AGs) : Prop :=
  ∀ vs ds σ H F S R ρ Q E P, Sta K F S R H → EnR K F σ ρ → (∀ σ, WOk K F R σ W E) → DvL K F vs ds → a ds ρ S Q E → PostN K F R Q P → t vs σ H P
structure GA (X : Cx) (W : WX) (tg : Expr) (t : TG) (a : AG) : Prop where
  pg : PG X tg t
  rg : RG X.kw W t a
structure GsA (X : Cx) (W : WX) (tgs : List Expr) (t : TGs) (a : AGs) : Prop where
  pg : PGs X tgs t
  rg : RGs X.kw W t a
def agName (i : Nat) : AG := fun d ρ S Q _ => Q (ρ.set i (some d)) S
theorem g_name {i : Nat} {x : Str} (hN : X.N.Nodup) (hi : X.N[i]? = some x := by rfl) (hx : Loc X.env.scope x := by first | exact Or.inl rfl | exact Or.inr rfl)
    (hf : X.fn x = true ∨ X.env.scope.names.lookup x = some .local := by first | exact .inl rfl | exact .inr rfl | assumption) : GA X W (.Name x pos) (gName i) (agName i) :=
  ⟨pg_name hN hi hx hf, fun v d σ H F S R ρ Q E P T en wo dv q po => po _ H F S _ (Same.refl _) T (en.set dv) q⟩
def agNil : AGs := fun ds ρ S Q _ => ds = [] ∧ Q ρ S
def agCons (a : AG) (r : AGs) : AGs := fun ds ρ S Q E => match ds with | d :: ds => a d ρ S (fun ρ1 S1 => r ds ρ1 S1 Q E) E | [] => False
theorem gs_nil : GsA X W [] gNil agNil := by
  refine ⟨pgs_nil, fun vs ds σ H F S R ρ Q E P T en wo dv q po => ?_⟩
  obtain ⟨e, q⟩ := q
  subst e
  cases dv
  exact ⟨rfl, po σ H F S ρ (Same.refl _) T en q⟩
theorem gs_cons {e : Expr} {es : List Expr} {t : TG} {u : TGs} {a : AG} {r : AGs} (h1 : GA X W e t a) (h2 : GsA X W es u r) (hs : (assignEach (e :: es) X.env).map (·.2) = assign e X.env :: (assignEach es X.env).map (·.2) := by rfl) :
    GsA X W (e :: es) (gCons t u) (agCons a r) := by
  refine ⟨pgs_cons h1.pg h2.pg hs, fun vs ds σ H F S R ρ Q E P T en wo dv q po => ?_⟩
  cases dv with
  | nil => exact (show False from q).elim
  | cons h t' => exact ⟨_, _, rfl, h1.rg _ _ σ H F S R ρ _ E _ T en (wo σ) h q fun σ1 H1 F1 S1 ρ1 e1 T1 en1 q1 => h2.rg _ _ σ1 H1 F1 S1 R ρ1 Q E P T1 en1 (fun s => (wo s).mono e1) (t'.mono e1) q1 (po.mono e1)⟩
theorem pg_or {tg : Expr} {t1 t2 : TG} (h1 : PG X tg t1) (h2 : PG X tg t2) : PG X tg (fun v σ H Q => t1 v σ H Q ∨ t2 v σ H Q) :=
  ⟨fun pins s σ H v u Q I r h => h.elim (h1.run pins s σ H v u Q I r) (h2.run pins s σ H v u Q I r)⟩
/-- the items of a list or tuple, as they stand -/
def asL (S : Sto) : D → Option (List D)
  | .lst l => some l
  | .own a => match S a with | some (.lst l) => some l | _ => none
  | _ => none
def asSq (S : Sto) : D → Option (List D)
  | .tup l => some l
  | d => asL S d
theorem asL_ok {K : KW} {F H : Hp} {S R : Sto} {v : V} {d : D} {ds : List D} (T : Sta K F S R H) (h : Dv K F v d) (q : asL S d = some ds) : ∃ a xs, v = .ref a ∧ H a = some (.lst xs) ∧ DvL K F xs ds ∧ ds.length ≤ sizeLine := by
  cases h with
  | lst h z l => cases q; exact ⟨_, _, rfl, T.le _ _ h, l, z⟩
  | own a =>
    have q2 : (match S a with | some (.lst l) => some l | _ => none) = some ds := q
    split at q2
    · rename_i l e2
      cases q2
      obtain ⟨_, z, xs, h1, h2⟩ := T.own _ _ e2
      exact ⟨_, xs, rfl, h1, h2, z⟩
    · cases q2
  | _ => cases q
theorem asSq_ok {K : KW} {F H : Hp} {S R : Sto} {v : V} {d : D} {ds : List D} (T : Sta K F S R H) (h : Dv K F v d) (q : asSq S d = some ds) : ∃ a xs, v = .ref a ∧ (SqL K.K H a xs ∨ SqT K.K H a xs) ∧ DvL K F xs ds ∧ ds.length ≤ sizeLine := by
  cases d with
  | tup l =>
    cases q
    cases h with
    | tup h z l => exact ⟨_, _, rfl, .inr (SqT.same T.le h), l, z⟩
  | _ =>
    obtain ⟨a, xs, h1, h2, h3, h4⟩ := asL_ok T h q
    exact ⟨a, xs, h1, .inl (SqL.of h2), h3, h4⟩
def agTup (n : Nat) (r : AGs) : AG := fun d ρ S Q E => ∃ ds, asSq S d = some ds ∧ ds.length = n ∧ r ds ρ S Q E
theorem g_tup {es : List Expr} {k : Nat} {t : TGs} {r : AGs} {n : Nat} (hc : X.calm = true) (h : GsA X W es t r) (hw : ∀ {K F R σ σ' E}, WOk K F R σ W E → WOk K F R σ' W E)
    (hn : (assignEach es X.env).length = n := by rfl) (hst : (assignEach es X.env).findIdx? (·.1) = none := by rfl) :
    GA X W (.Tuple es k pos) (fun v σ H Q => gTup X.K n t v σ H Q ∨ gLst X.K n t v σ H Q) (agTup n r) := by
  refine ⟨pg_or (pg_tup hc h.pg hn hst) (pg_lst hc h.pg hn hst), fun v d σ H F S R ρ Q E P T en wo dv q po => ?_⟩
  obtain ⟨ds, e, hn, q⟩ := q
  obtain ⟨a, xs, rfl, h2, h3, _⟩ := asSq_ok T dv e
  have hl : xs.length = n := h3.len.trans hn
  have fin := h.rg xs ds σ H F S R ρ Q E P T en (fun s => hw wo) h3 q po
  cases h2 with
  | inl z => exact .inr ⟨a, xs, rfl, z, hl, fin⟩
  | inr z => exact .inl ⟨a, xs, rfl, z, hl, fin⟩
def aAsg (a : AE) (g : AG) : AS := fun D ρ S => a ρ S (fun d S1 => g d ρ S1 D.nx (D.xx ρ)) (D.xx ρ)
theorem s_asg {tg : Expr} {g : TG} {ag : AG} (h : EA X W e te ae) (hg : GA X W tg g ag) (hs : swapsWithSole [tg] e pos.line X.env = pure false := by rfl)
    (hsw : swappedStores [tg] e X.env = pure none := by rfl) (hm : (assignEach [tg] X.env).map (·.2) = [assign tg X.env] := by rfl) : SA X W (.Assign [tg] e pos) (tAsg te g) (aAsg ae ag) :=
  ⟨ps_asg h.pe hg.pg hs hsw hm, fun σ H F S R ρ Da Dc T en wo dn q => h.re σ H F S R ρ _ _ _ T en (wo.at_ en) q fun v H1 F1 S1 d e1 T1 dv q1 =>
    hg.rg v d σ H1 F1 S1 R ρ _ _ _ T1 (en.mono e1) ((wo.at_ en).mono e1) dv q1 (dn.nx.mono e1)⟩
def aSet (i : Nat) (a : AE) : AS := fun D ρ S => a ρ S (fun d S1 => D.nx (ρ.set i (some d)) S1) (D.xx ρ)
theorem s_set {i : Nat} {x : Str} {pos' : Pos} (h : EA X W e te ae) (hN : X.N.Nodup) (hi : X.N[i]? = some x := by rfl) (hx : Loc X.env.scope x := by first | exact Or.inl rfl | exact Or.inr rfl) (hs : swapsWith e (some (.Name x pos')) pos.line X.env = pure false := by rfl)
    (hf : X.fn x = true ∨ X.env.scope.names.lookup x = some .local := by first | exact .inl rfl | exact .inr rfl | assumption) : SA X W (.Assign [.Name x pos'] e pos) (tAsg te (gName i)) (aSet i ae) :=
  ⟨ps_set hN hi hx h.pe hs hf, fun σ H F S R ρ Da Dc T en wo dn q => h.re σ H F S R ρ _ _ _ T en (wo.at_ en) q fun v H1 F1 S1 d e1 T1 dv q1 => dn.nx _ H1 F1 S1 _ e1 T1 ((en.mono e1).set dv) q1⟩
/-- a, b = x, y -/
def aPar (i j : Nat) (ar : AA) : AS := fun D ρ S => ar ρ S (fun ds S1 => match ds with | [d, e] => D.nx ((ρ.set i (some d)).set j (some e)) S1 | _ => False) (D.xx ρ)
theorem s_par {i j : Nat} {x y : Str} {l r : Expr} {ta : TA} {ar : AA} {px py pt : Pos} {kt k2 : Nat} {pt2 : Pos} (hc : X.calm = true) (hN : X.N.Nodup) (ha : ArA X W [l, r] ta ar)
    (hi : X.N[i]? = some x := by rfl) (hj : X.N[j]? = some y := by rfl) (hij : i ≠ j := by decide) (hx : X.env.scope.names.lookup x = some .local := by rfl) (hy : X.env.scope.names.lookup y = some .local := by rfl)
    (hw : swappedStores [.Tuple [.Name x px, .Name y py] kt pt] (.Tuple [l, r] k2 pt2) X.env = pure (some [x, y]) := by rfl) (hs : swapsWithSole [.Tuple [.Name x px, .Name y py] kt pt] (.Tuple [l, r] k2 pt2) pos.line X.env = pure false := by rfl) :
    SA X W (.Assign [.Tuple [.Name x px, .Name y py] kt pt] (.Tuple [l, r] k2 pt2) pos) (tPar i j ta) (aPar i j ar) := by
  refine ⟨ps_par hc hN hi hj hij hx hy ha.pa hw hs, fun σ H F S R ρ Da Dc T en wo dn q => ha.ra σ H F S R ρ _ _ _ T en (wo.at_ en) q fun vs H1 F1 S1 ds e1 T1 dvs q1 => ?_⟩
  cases dvs with
  | nil => exact (show False from q1).elim
  | cons h1 t1 =>
    cases t1 with
    | nil => exact (show False from q1).elim
    | cons h2 t2 =>
      cases t2 with
      | cons _ _ => exact (show False from q1).elim
      | nil => exact ⟨_, _, rfl, dn.nx _ H1 F1 S1 _ e1 T1 (((en.mono e1).set h1).set h2) q1⟩
/-- x op= e -/
def aAug (i : Nat) (a : AE) (o : O2) : AS := fun D ρ S => atV ρ[i]? fun d => a ρ S (fun e S1 => o d e S1 fun g S2 => D.nx (ρ.set i (some g)) S2) (D.xx ρ)
structure IpA (X : Cx) (op : Operator) (t : TIp) (a : O2) : Prop where
  op : PIp X op t
  k : R2k X.kw t a
theorem s_aug {i : Nat} {x : Str} {op : Operator} {ti : TIp} {o : O2} {pos' : Pos} (ho : IpA X op ti o) (h : EA X W e te ae) (hN : X.N.Nodup) (hi : X.N[i]? = some x := by rfl) (hx : Loc X.env.scope x := by first | exact Or.inl rfl | exact Or.inr rfl)
    (hf : X.fn x = true ∨ X.env.scope.names.lookup x = some .local := by first | exact .inl rfl | exact .inr rfl | assumption) : SA X W (.AugAssign (.Name x pos') op e pos) (tAug i te ti) (aAug i ae o) := by
  refine ⟨ps_aug hN hi hx h.pe ho.op hf, fun σ H F S R ρ Da Dc T en wo dn q => ?_⟩
  obtain ⟨d, hd, q⟩ := atV_ok q
  obtain ⟨v, h1, h2⟩ := en.at_ i d hd
  refine ⟨v, h1, h.re σ H F S R ρ _ _ _ T en (wo.at_ en) q fun u H1 F1 S1 e2 e1 T1 dv q1 => ?_⟩
  exact ho.k v u d e2 H1 F1 S1 R _ _ T1 (h2.mono e1) dv q1 fun g H2 F2 S2 dg e3 T2 dgv q2 => dn.nx _ H2 F2 S2 _ (e1.trans e3) T2 ((en.mono (e1.trans e3)).set dgv) q2

/-! ### while -/
def aWhile (c : AT) (b : AS) : AS := fun D ρ S => ∃ I : Nat → En → Sto → Prop, (∃ m, I m ρ S) ∧ ∀ m ρ S, I m ρ S →
  c ρ S (fun k S1 => if k = true then b { D with nx := fun ρ' S' => ∃ m', m' < m ∧ I m' ρ' S', ct := fun ρ' S' => ∃ m', m' < m ∧ I m' ρ' S', bk := D.nx } ρ S1 else D.nx ρ S1) (D.xx ρ)
theorem s_while {l : List Stmt} (hp : PassesOwn (model X.prog X.w) X.A X.env X.xe) (hc : TstA X W c tc ac) (hb : SsA X W l t a) : SA X W (.While c l [] pos) (tWhile tc t) (aWhile ac a) := by
  refine ⟨ps_while hp hc.pt hb.ps, fun σ H F S R ρ Da Dc T en wo dn q => ?_⟩
  obtain ⟨I, ⟨m0, i0⟩, turn⟩ := q
  refine ⟨fun m σ H => ∃ F1 S1 ρ1, Same F F1 ∧ Sta X.kw F1 S1 R H ∧ EnR X.kw F1 σ ρ1 ∧ I m ρ1 S1, ⟨m0, F, S, ρ, Same.refl _, T, en, i0⟩, ?_⟩
  rintro m σ1 H1 ⟨F1, S1, ρ1, e1, T1, en1, i1⟩
  refine hc.rt σ1 H1 F1 S1 R ρ1 _ _ _ T1 en1 ((wo.mono e1).at_ en1) (turn m ρ1 S1 i1) fun k H2 F2 S2 e2 T2 q2 => ?_
  have e12 := e1.trans e2
  cases k with
  | false => exact dn.nx σ1 H2 F2 S2 ρ1 e12 T2 (en1.mono e2) q2
  | true =>
    refine ⟨fun σ' H' => ∃ m', m' < m ∧ ∃ F3 S3 ρ3, Same F F3 ∧ Sta X.kw F3 S3 R H' ∧ EnR X.kw F3 σ' ρ3 ∧ I m' ρ3 S3, fun σ' H' z => z, ?_⟩
    have nxt : PostN X.kw F2 R (fun ρ' S' => ∃ m', m' < m ∧ I m' ρ' S') (fun σ' H' => ∃ m', m' < m ∧ ∃ F3 S3 ρ3, Same F F3 ∧ Sta X.kw F3 S3 R H' ∧ EnR X.kw F3 σ' ρ3 ∧ I m' ρ3 S3) :=
      fun σ' H' F3 S3 ρ3 e3 T3 en3 ⟨m', lt, i3⟩ => ⟨m', lt, F3, S3, ρ3, e12.trans e3, T3, en3, i3⟩
    refine hb.rs σ1 H2 F2 S2 R ρ1 { Da with nx := fun ρ' S' => ∃ m', m' < m ∧ I m' ρ' S', ct := fun ρ' S' => ∃ m', m' < m ∧ I m' ρ' S', bk := Da.nx } _ T2 (en1.mono e2) (wo.mono e12) ?_ q2
    exact ⟨nxt, dn.rt.mono e12, dn.nx.mono e12, nxt⟩

/-! ### what is walked -/
structure WkA (K : KW) (F : Hp) (J : It) (ds : List D) (G : Sto → Prop) : Prop where
  len : ds.length ≤ sizeLine
  stops : ∀ F' S' R' H', Same F F' → Sta K F' S' R' H' → G S' → J.stop ds.length H'
  goes : ∀ i d F' S' R' H', Same F F' → Sta K F' S' R' H' → G S' → ds[i]? = some d → J.go i H'
  yields : ∀ i d F' S' R' H' x H2, Same F F' → Sta K F' S' R' H' → G S' → ds[i]? = some d → J.yld i H' x H2 → ∃ F2, Same F' F2 ∧ Sta K F2 S' R' H2 ∧ Dv K F2 x d
abbrev AI := En → Sto → (List D → (Sto → Prop) → Sto → Prop) → KX → Prop
def RI (K : KW) (W : WX) (wi : TI) (ai : AI) : Prop :=
  ∀ σ H F S R ρ Q E (P : It → Hp → Prop), Sta K F S R H → EnR K F σ ρ → WOk K F R σ W E → ai ρ S Q E →
    (∀ J H' F' S' ds G, Same F F' → Sta K F' S' R H' → WkA K F' J ds G → Q ds G S' → P J H') → wi σ H P
structure IA (X : Cx) (W : WX) (tg it : Expr) (wi : TI) (ai : AI) : Prop where
  pi : PI X tg it wi
  ri : RI X.kw W wi ai
def aLoop (g : AG) (b : AS) (D : AEnds) (G : Sto → Prop) : List A.D → En → Sto → Prop
  | [], ρ, S => G S ∧ D.nx ρ S
  | d :: r, ρ, S => G S ∧ g d ρ S (fun ρ1 S1 => b { D with nx := aLoop g b D G r, ct := aLoop g b D G r, bk := D.nx } ρ1 S1) (D.xx ρ)
theorem aLoop_guard {g : AG} {b : AS} {D : AEnds} {G : Sto → Prop} {ds : List A.D} {ρ : En} {S : Sto} (h : aLoop g b D G ds ρ S) : G S := by
  cases ds with
  | nil => exact h.1
  | cons d r => exact h.1
def aFor (ai : AI) (g : AG) (b : AS) : AS := fun D ρ S => ai ρ S (fun ds G S1 => aLoop g b D G ds ρ S1) (D.xx ρ)
theorem s_for {tg it : Expr} {body : List Stmt} {wi : TI} {ai : AI} {g : TG} {ag : AG} (hp : PassesOwn (model X.prog X.w) X.A X.env X.xe) (hc : X.calm = true) (hi : IA X W tg it wi ai) (hg : GA X W tg g ag) (hb : SsA X W body t a)
    (hs : ∀ x, foldedSetIterable it X.env x = pure x := by intros; rfl) : SA X W (.For tg it body [] pos) (tFor wi g t) (aFor ai ag a) := by
  refine ⟨ps_for hp hc hi.pi hg.pg hb.ps hs, fun σ H F S R ρ Da Dc T en wo dn q => ?_⟩
  refine hi.ri σ H F S R ρ _ _ _ T en (wo.at_ en) q fun J H1 F1 S1 ds G e1 T1 wk q1 => ?_
  refine ⟨fun i m σ H => i ≤ ds.length ∧ m = ds.length - i ∧ ∃ F2 S2 ρ2, Same F1 F2 ∧ Sta X.kw F2 S2 R H ∧ EnR X.kw F2 σ ρ2 ∧ aLoop ag a Da G (ds.drop i) ρ2 S2,
    ⟨ds.length, Nat.zero_le _, by omega, F1, S1, ρ, Same.refl _, T1, en.mono e1, q1⟩, ?_⟩
  rintro i m σ2 H2 ⟨hi, rfl, F2, S2, ρ2, e2, T2, en2, q2⟩
  have gd := aLoop_guard q2
  have e12 := e1.trans e2
  by_cases lt : i < ds.length
  · right
    have hd : ds[i]? = some ds[i] := List.getElem?_eq_getElem lt
    rw [List.drop_eq_getElem_cons lt] at q2
    refine ⟨wk.goes i _ F2 S2 R H2 e2 T2 gd hd, fun σ' H' => ∃ F3 S3 ρ3, Same F1 F3 ∧ Sta X.kw F3 S3 R H' ∧ EnR X.kw F3 σ' ρ3 ∧ aLoop ag a Da G (ds.drop (i + 1)) ρ3 S3,
      fun σ' H' z => ⟨ds.length - (i + 1), by omega, lt, rfl, z⟩, fun x H3 y => ?_⟩
    obtain ⟨F3, e3, T3, dv⟩ := wk.yields i _ F2 S2 R H2 x H3 e2 T2 gd hd y
    have e13 := e12.trans e3
    refine hg.rg x _ σ2 H3 F3 S2 R ρ2 _ _ _ T3 (en2.mono e3) ((wo.mono e13).at_ (en2.mono e3)) dv q2.2 fun σ4 H4 F4 S4 ρ4 e4 T4 en4 q4 => ?_
    have e14 := e13.trans e4
    have nxt : PostN X.kw F4 R (aLoop ag a Da G (ds.drop (i + 1))) (fun σ' H' => ∃ F3 S3 ρ3, Same F1 F3 ∧ Sta X.kw F3 S3 R H' ∧ EnR X.kw F3 σ' ρ3 ∧ aLoop ag a Da G (ds.drop (i + 1)) ρ3 S3) :=
      fun σ' H' F5 S5 ρ5 e5 T5 en5 q5 => ⟨F5, S5, ρ5, ((e2.trans e3).trans e4).trans e5, T5, en5, q5⟩
    refine hb.rs σ4 H4 F4 S4 R ρ4 { Da with nx := aLoop ag a Da G (ds.drop (i + 1)), ct := aLoop ag a Da G (ds.drop (i + 1)), bk := Da.nx } _ T4 en4 (wo.mono e14) ?_ q4
    exact ⟨nxt, dn.rt.mono e14, dn.nx.mono e14, nxt⟩
  · left
    have ei : i = ds.length := by omega
    subst ei
    rw [List.drop_length] at q2
    exact ⟨wk.stops F2 S2 R H2 e2 T2 gd, dn.nx σ2 H2 F2 S2 ρ2 e12 T2 en2 q2.2⟩

theorem wk_list {K : KW} {F : Hp} {a : Addr} {xs : List V} {ds : List D} {G : Sto → Prop} (z : ds.length ≤ sizeLine) (h : ∀ F' S' R' H', Same F F' → Sta K F' S' R' H' → G S' → ∃ xs, SqL K.K H' a xs ∧ DvL K F' xs ds) : WkA K F (Itl K.K a) ds G := by
  refine ⟨z, fun F' S' R' H' e T g => ?_, fun i d F' S' R' H' e T g hd => ?_, fun i d F' S' R' H' x H2 e T g hd y => ?_⟩
  · obtain ⟨xs, h1, h2⟩ := h F' S' R' H' e T g
    exact ⟨xs, h1, Nat.le_of_eq h2.len⟩
  · obtain ⟨xs, h1, h2⟩ := h F' S' R' H' e T g
    obtain ⟨v, hv, _⟩ := h2.getD hd
    exact ⟨xs, v, h1, hv⟩
  · obtain ⟨xs, h1, h2⟩ := h F' S' R' H' e T g
    obtain ⟨v, hv, dv⟩ := h2.getD hd
    obtain ⟨e2, y2⟩ := y
    subst e2
    rw [y2 xs h1] at hv
    cases hv
    exact ⟨F', Same.refl _, T, dv⟩
theorem wk_tup {K : KW} {F : Hp} {a : Addr} {xs : List V} {ds : List D} {G : Sto → Prop} (z : ds.length ≤ sizeLine) (h1 : SqT K.K F a xs) (h2 : DvL K F xs ds) : WkA K F (Itt K.K a) ds G := by
  refine ⟨z, fun F' S' R' H' e T g => ⟨xs, SqT.same (e.trans T.le) h1, Nat.le_of_eq h2.len⟩, fun i d F' S' R' H' e T g hd => ?_, fun i d F' S' R' H' x H2 e T g hd y => ?_⟩
  · obtain ⟨v, hv, _⟩ := h2.getD hd
    exact ⟨xs, v, SqT.same (e.trans T.le) h1, hv⟩
  · obtain ⟨v, hv, dv⟩ := h2.getD hd
    obtain ⟨e2, y2⟩ := y
    subst e2
    rw [y2 xs (SqT.same (e.trans T.le) h1)] at hv
    cases hv
    exact ⟨F', Same.refl _, T, dv.mono e⟩
def iSeq (K : PySem.W.Frag) (tl : TE) : TI := fun σ H R => tl σ H fun x H1 =>
  (∃ a, x = .ref a ∧ (∃ xs, SqL K H1 a xs) ∧ R (Itl K a) H1) ∨ (∃ a, x = .ref a ∧ (∃ xs, SqT K H1 a xs) ∧ R (Itt K a) H1) ∨ ∃ z, x = .str z ∧ R (Its z) H1
theorem pi_seq {tg l : Expr} {tl : TE} (hl : PE X l tl) : PI X tg l (iSeq X.K tl) := by
  refine ⟨fun pins s σ H R I h => thn (hl.run pins s σ H _ I h) fun v s1 ⟨x, H1, I1, r1, q1⟩ => ?_⟩
  rcases q1 with ⟨a, rfl, ⟨xs, hq⟩, q⟩ | ⟨a, rfl, ⟨xs, hq⟩, q⟩ | ⟨z, rfl, q⟩
  · cases r1
    obtain ⟨its, rv, p, _⟩ := I1.list hq
    exact wpAny_pyIter_list p.isList (pi_one (tk := s1.toks) I1 _ (turn_list a _) ⟨_, Heap.get?_push_size _ rfl, rfl, rfl⟩ q)
  · cases r1
    obtain ⟨its, rv, p, _⟩ := I1.tuple hq
    exact wpAny_pyIter_tuple (show s1.heap.IsTuple a its.toArray from p) (pi_one (tk := s1.toks) I1 _ (turn_tuple a _) ⟨_, Heap.get?_push_size _ rfl, rfl, rfl⟩ q)
  · obtain ⟨t, rfl⟩ := r1
    cases ha : z.cps.all (· < 128) with
    | false => exact wpAny_pyIter_wide ha (pi_one (tk := s1.toks) I1 _ (turn_str _ z t "str_iterator" (.inr rfl)) ⟨_, Heap.get?_push_size _ rfl, rfl, rfl⟩ q)
    | true => exact wpAny_pyIter_ascii ha (pi_one (tk := s1.toks) I1 _ (turn_str _ z t "str_ascii_iterator" (.inl rfl)) ⟨_, Heap.get?_push_size _ rfl, rfl, rfl⟩ q)
/-- a text's signs, as texts -/
def signs (z : Str) : List D := z.cps.toList.map fun c => .str ⟨#[c]⟩
def aItD : D → Sto → (List D → (Sto → Prop) → Sto → Prop) → Prop
  | .lst ds, S, Q => Q ds (fun _ => True) S
  | .tup ds, S, Q => Q ds (fun _ => True) S
  | .scr ns, S, Q => Q (ns.map D.int) (fun _ => True) S
  | .str z, S, Q => z.cps.size ≤ sizeLine ∧ Q (signs z) (fun _ => True) S
  | .own p, S, Q => ∃ ds, S p = some (.lst ds) ∧ Q ds (fun S' => S' p = some (.lst ds)) S
  | _, _, _ => False
def aIter (a : AE) : AI := fun ρ S Q E => a ρ S (fun d S1 => aItD d S1 Q) E
theorem wk_str {K : KW} {F : Hp} {z : Str} {G : Sto → Prop} (h : z.cps.size ≤ sizeLine) : WkA K F (Its z) (signs z) G := by
  refine ⟨by unfold signs; simpa using h, fun F' S' R' H' e T g => ?_, fun i d F' S' R' H' e T g hd => ?_, fun i d F' S' R' H' x H2 e T g hd y => ?_⟩
  · show z.cps.size ≤ (signs z).length
    unfold signs
    simp
  · show i < z.cps.size
    have := (List.getElem?_eq_some_iff.mp hd).1
    unfold signs at this
    simpa using this
  · obtain ⟨e2, c, hc, ex⟩ := y
    subst e2 ex
    unfold signs at hd
    rw [List.getElem?_map] at hd
    have : z.cps.toList[i]? = some c := by simpa using hc
    rw [this] at hd
    cases hd
    exact ⟨F', Same.refl _, T, .str _⟩
theorem i_seq {tg it : Expr} (h : EA X W it te ae) : IA X W tg it (iSeq X.K te) (aIter ae) := by
  refine ⟨pi_seq h.pe, fun σ H F S R ρ Q E P T en wo q po => h.re σ H F S R ρ _ E _ T en wo q fun v H1 F1 S1 d e1 T1 dv q1 => ?_⟩
  cases dv with
  | lst hl z l =>
    refine .inl ⟨_, rfl, ⟨_, SqL.of (T1.le _ _ hl)⟩, po _ H1 F1 S1 _ _ e1 T1 (wk_list (xs := []) z fun F' S' R' H' e T' g => ⟨_, SqL.of ((e.trans T'.le) _ _ hl), l.mono e⟩) q1⟩
  | tup hl z l =>
    exact .inr (.inl ⟨_, rfl, ⟨_, SqT.same T1.le hl⟩, po _ H1 F1 S1 _ _ e1 T1 (wk_tup z hl l) q1⟩)
  | str z => exact .inr (.inr ⟨z, rfl, po _ H1 F1 S1 _ _ e1 T1 (wk_str q1.1) q1.2⟩)
  | scr h z =>
    refine .inl ⟨_, rfl, ⟨_, T1.le.seq h⟩, po _ H1 F1 S1 _ _ e1 T1 (wk_list (xs := []) (by rw [List.length_map]; exact z) fun F' S' R' H' e T' g => ⟨_, (e.trans T'.le).seq h, DvL.ints _⟩) q1⟩
  | own p =>
    obtain ⟨ds, e2, q2⟩ := q1
    obtain ⟨_, z, xs, h1, h2⟩ := T1.own _ _ e2
    refine .inl ⟨_, rfl, ⟨_, SqL.of h1⟩, po _ H1 F1 S1 _ _ e1 T1 (wk_list (xs := []) z fun F' S' R' H' e T' g => ?_) q2⟩
    obtain ⟨_, _, ys, h3, h4⟩ := T'.own _ _ g
    exact ⟨ys, SqL.of h3, h4⟩
  | _ => exact (show False from q1).elim
def rngD (lo : Int) (n : Nat) : List D := (List.range n).map fun (i : Nat) => .int (lo + (i : Int))
theorem wk_range {K : KW} {F : Hp} {lo : Int} {n : Nat} {G : Sto → Prop} (h : n ≤ sizeLine) : WkA K F (Itr lo n) (rngD lo n) G := by
  refine ⟨by unfold rngD; simpa using h, fun F' S' R' H' e T g => ?_, fun i d F' S' R' H' e T g hd => ?_, fun i d F' S' R' H' x H2 e T g hd y => ?_⟩
  · show n ≤ (rngD lo n).length
    unfold rngD
    simp
  · show i < n
    have := (List.getElem?_eq_some_iff.mp hd).1
    unfold rngD at this
    simpa using this
  · obtain ⟨e2, ex⟩ := y
    subst e2 ex
    have lt := (List.getElem?_eq_some_iff.mp hd).1
    unfold rngD at hd lt
    rw [List.length_map, List.length_range] at lt
    rw [List.getElem?_map, List.getElem?_range lt] at hd
    cases hd
    exact ⟨F', Same.refl _, T, .int _⟩
def aRng1 (ar : AA) : AI := fun ρ S Q E => ar ρ S (fun ds S1 => onL1 (fun j => -(2 ^ 62) ≤ j ∧ j ≤ 16777216 ∧ Q (rngD 0 j.toNat) (fun _ => True) S1) ds) E
def aRng2 (ar : AA) : AI := fun ρ S Q E => ar ρ S (fun ds S1 => onL2 (fun i j => -(2 ^ 62) ≤ i ∧ i < 2 ^ 61 ∧ -(2 ^ 62) ≤ j ∧ j - i ≤ 16777216 ∧ Q (rngD i (j - i).toNat) (fun _ => True) S1) ds) E
theorem i_range1 {tg x : Expr} {ta : TA} {ar : AA} {p : Pos} (hm : X.mg "range" = none) (h : ArA X W [x] ta ar) (hg : Gl X "range" := by rfl) (hs : starEach [x] X.env = [(false, eval x X.env)] := by rfl) :
    IA X W tg (.Call (.Name "range" p) [x] [] pos) (iRng1 ta) (aRng1 ar) := by
  refine ⟨pi_range1 hg hm h.pa hs, fun σ H F S R ρ Q E P T en wo q po => h.ra σ H F S R ρ _ E _ T en wo q fun vs H1 F1 S1 ds e1 T1 dvs q1 => ?_⟩
  cases dvs with
  | nil => exact (show False from q1).elim
  | cons h1 t1 =>
    cases t1 with
    | cons _ _ => cases h1 <;> exact (show False from q1).elim
    | nil =>
      cases h1 with
      | int j => exact ⟨j, rfl, q1.1, by have := q1.2.1; omega, po _ H1 F1 S1 _ _ e1 T1 (wk_range (by rw [sizeLine_eq]; have := q1.2.1; omega)) q1.2.2⟩
      | _ => exact (show False from q1).elim
theorem i_range2 {tg x y : Expr} {ta : TA} {ar : AA} {p : Pos} (hm : X.mg "range" = none) (h : ArA X W [x, y] ta ar) (hg : Gl X "range" := by rfl) (hs : starEach [x, y] X.env = [(false, eval x X.env), (false, eval y X.env)] := by rfl) (hs2 : starEach [y] X.env = [(false, eval y X.env)] := by rfl) :
    IA X W tg (.Call (.Name "range" p) [x, y] [] pos) (iRng2 ta) (aRng2 ar) := by
  refine ⟨pi_range2 hg hm h.pa hs hs2, fun σ H F S R ρ Q E P T en wo q po => h.ra σ H F S R ρ _ E _ T en wo q fun vs H1 F1 S1 ds e1 T1 dvs q1 => ?_⟩
  cases dvs with
  | nil => exact (show False from q1).elim
  | cons h1 t1 =>
    cases t1 with
    | nil => cases h1 <;> exact (show False from q1).elim
    | cons h2 t2 =>
      cases t2 with
      | cons _ _ => cases h1 <;> cases h2 <;> exact (show False from q1).elim
      | nil =>
        cases h1 with
        | int i =>
          cases h2 with
          | int j =>
            obtain ⟨q1, q2, q3, q4, q5⟩ := q1
            exact ⟨i, j, rfl, ⟨q1, by omega, q3, by omega⟩, po _ H1 F1 S1 _ _ e1 T1 (wk_range (by rw [sizeLine_eq]; omega)) q5⟩
          | _ => exact (show False from q1).elim
        | _ => exact (show False from q1).elim
end
end A

/-! ## comprehensions -/
namespace A
open PySem PySem.Spec L2 PyProof.Rows
def W0 : WX := fun _ _ _ _ => False
theorem tk0 {X : Cx} : Takes X W0 := L2.takes0
/-- the target stores into the block's own names alone -/
def WGt (vs : List Nat) (g : TG) : Prop := ∀ v (σ : St) H P, g v (wipe σ vs) H P → g v (wipe σ vs) H fun σ2 H2 => wipe σ2 vs = wipe σ vs ∧ P σ2 H2
theorem wipe_set : ∀ {vs : List Nat} {σ : St} {i : Nat} {x : Option V}, i ∈ vs → wipe (σ.set i x) vs = wipe σ vs
  | v :: vs, σ, i, x, h => by
    unfold wipe
    by_cases e : i ∈ vs
    · rw [wipe_set e]
    · have : i = v := by simpa [e] using h
      subst this
      have out : ∀ (l : List Nat) (τ : St), i ∉ l → wipe (τ.set i x) l = (wipe τ l).set i x := by
        intro l
        induction l with
        | nil => intro τ _; rfl
        | cons w l ih =>
          intro τ hn
          unfold wipe
          rw [ih τ (fun z => hn (List.mem_cons_of_mem _ z)), List.set_comm]
          intro z
          exact hn (by rw [z]; exact List.mem_cons_self)
      rw [out vs σ e, List.set_set]
theorem wipe_none {vs : List Nat} {σ : St} {i : Nat} (h : i ∈ vs) : (wipe σ vs).set i none = wipe σ vs := by
  induction vs with
  | nil => cases h
  | cons v vs ih =>
    unfold wipe
    by_cases e : i = v
    · subst e; rw [List.set_set]
    · have : i ∈ vs := by simpa [e] using h
      rw [List.set_comm _ _ (Ne.symm e), ih this]
theorem wipe_wipe {vs ws : List Nat} {σ : St} (h : ∀ i ∈ ws, i ∈ vs) : wipe (wipe σ vs) ws = wipe σ vs := by
  induction ws with
  | nil => rfl
  | cons w ws ih =>
    show (wipe (wipe σ vs) ws).set w none = _
    rw [ih fun i hi => h i (List.mem_cons_of_mem _ hi)]
    exact wipe_none (h w List.mem_cons_self)
theorem wgt_name {vs : List Nat} {i : Nat} (h : i ∈ vs) : WGt vs (gName i) := fun v σ H P q => ⟨by rw [wipe_set h, wipe_wipe fun i hi => hi], q⟩
/-- several of one's own names -/
def WGs (vs : List Nat) (g : TGs) : Prop := ∀ us (τ σ : St) H P, wipe τ vs = wipe σ vs → g us τ H P → g us τ H fun σ2 H2 => wipe σ2 vs = wipe σ vs ∧ P σ2 H2
theorem wgs_nil {vs : List Nat} : WGs vs gNil := fun us τ σ H P e q => ⟨q.1, e, q.2⟩
theorem wgs_cons {vs : List Nat} {i : Nat} {u : TGs} (h : i ∈ vs) (k : WGs vs u) : WGs vs (gCons (gName i) u) := by
  rintro us τ σ H P e ⟨v, r, rfl, q⟩
  exact ⟨v, r, rfl, k r (τ.set i (some v)) σ H P ((wipe_set h).trans e) q⟩
theorem wgt_tup {vs : List Nat} {K : PySem.W.Frag} {n : Nat} {u : TGs} (k : WGs vs u) : WGt vs (fun v σ H Q => gTup K n u v σ H Q ∨ gLst K n u v σ H Q) := by
  rintro v σ H P (⟨a, xs, e, h, l, q⟩ | ⟨a, xs, e, h, l, q⟩)
  · exact .inl ⟨a, xs, e, h, l, k xs _ σ H P (wipe_wipe fun i hi => hi) q⟩
  · exact .inr ⟨a, xs, e, h, l, k xs _ σ H P (wipe_wipe fun i hi => hi) q⟩
def wipeA (ρ : En) : List Nat → En
  | [] => ρ
  | v :: vs => (wipeA ρ vs).set v none
theorem EnR.wipe {K : KW} {F : Hp} {σ : St} {ρ : En} (h : EnR K F σ ρ) : ∀ vs : List Nat, EnR K F (L2.wipe σ vs) (wipeA ρ vs)
  | [] => h
  | _ :: vs => (EnR.wipe h vs).unset
structure TsA (X : Cx) (ifs : List Expr) (t : TT) (a : AT) : Prop where
  pt : PTs X ifs t
  rt : RT X.kw W0 t a
def aYes : AT := fun _ S Q _ => Q true S
theorem ts_nil {X : Cx} : TsA X [] tYes aYes := ⟨pts_nil, fun σ H F S R ρ Q E P T en wo q po => po true H F S (Same.refl _) T q⟩
theorem ts_one {X : Cx} {c : Expr} {t : TT} {a : AT} (h : TstA X W0 c t a) : TsA X [c] t a := ⟨pts_one h.pt, h.rt⟩
def aLcL (g : AG) (tt : AT) (e : AE) (G : Sto → Prop) (ρ : En) (Q : KD) : List A.D → List A.D → Sto → Prop
  | [], acc, S => G S ∧ NewL acc S Q
  | d :: r, acc, S => G S ∧ g d ρ S (fun ρ2 S2 => tt ρ2 S2 (fun b S3 => if b = true then e ρ2 S3 (fun v S4 => aLcL g tt e G ρ Q r (acc ++ [v]) S4) noX else aLcL g tt e G ρ Q r acc S3) noX) noX
theorem aLcL_guard {g : AG} {tt : AT} {e : AE} {G : Sto → Prop} {ρ : En} {Q : KD} {ds acc : List A.D} {S : Sto} (h : aLcL g tt e G ρ Q ds acc S) : G S := by
  cases ds with
  | nil => exact h.1
  | cons d r => exact h.1
def aLc (ai : AI) (g : AG) (tt : AT) (e : AE) (vs : List Nat) : AE := fun ρ S Q E => ai ρ S (fun ds G S1 => aLcL g tt e G (wipeA ρ vs) Q ds [] S1) E
section
variable {X : Cx} {W : WX} {elt tg iter : Expr} {ifs : List Expr} {scope : Scope} {own : List (Str × Nat)} {pos : Pos} {wi : TI} {ai : AI} {g : TG} {ag : AG} {tt : TT} {at_ : AT} {te : TE} {ae : AE}
/-- the least reading of a piece of syntax that has the data's one -/
def tOf (K : KW) (W : WX) (a : AE) : TE := fun σ H P => ∃ F S R ρ Q E, Sta K F S R H ∧ EnR K F σ ρ ∧ WOk K F R σ W E ∧ a ρ S Q E ∧ Post K F R Q P
def tOfT (K : KW) (W : WX) (a : AT) : TT := fun σ H P => ∃ F S R ρ Q E, Sta K F S R H ∧ EnR K F σ ρ ∧ WOk K F R σ W E ∧ a ρ S Q E ∧ PostB K F R Q P
theorem pe_of {X : Cx} {W : WX} {e : Expr} {t : TE} {a : AE} (h : EA X W e t a) : PE X e (tOf X.kw W a) :=
  ⟨fun pins s σ H Q I ⟨F, S, R, ρ, Q', E, T, en, wo, q, po⟩ => h.pe.run pins s σ H Q I (h.re σ H F S R ρ Q' E Q T en wo q po)⟩
theorem re_of {K : KW} {W : WX} {a : AE} : RE K W (tOf K W a) a := fun σ H F S R ρ Q E P T en wo q po => ⟨F, S, R, ρ, Q, E, T, en, wo, q, po⟩
theorem pts_of {X : Cx} {es : List Expr} {t : TT} {a : AT} (h : TsA X es t a) : PTs X es (tOfT X.kw W0 a) :=
  ⟨fun pins s σ H Q I ⟨F, S, R, ρ, Q', E, T, en, wo, q, po⟩ => h.pt.run pins s σ H Q I (h.rt σ H F S R ρ Q' E Q T en wo q po)⟩
theorem rt_of {K : KW} {W : WX} {a : AT} : RT K W (tOfT K W a) a := fun σ H F S R ρ Q E P T en wo q po => ⟨F, S, R, ρ, Q, E, T, en, wo, q, po⟩
theorem noWOk {K : KW} {F : Hp} {R : Sto} {σ : St} : WOk K F R σ W0 noX := fun _ _ _ _ _ _ _ _ _ q => q.elim
theorem re_lc {vs : List Nat} (hw : WGt vs g) (hi : RI X.kw W wi ai) (hg : RG X.kw W0 g ag) (ht : RT X.kw W0 tt at_) (he : RE X.kw W0 te ae) : RE X.kw W (tLc wi g tt te vs) (aLc ai ag at_ ae vs) := by
  intro σ H F S R ρ Q E P T en wo q po
  refine hi σ H F S R ρ _ E _ T en wo q fun J H1 F1 S1 ds G e1 T1 wk q1 => ?_
  intro p hp
  obtain ⟨fF, fS, fR⟩ := T1.free hp
  refine ⟨fun i m H => i ≤ ds.length ∧ m = ds.length - i ∧ ∃ F2 S2 acc, acc.length ≤ i ∧ Same F1 F2 ∧ Sta X.kw F2 S2 (put R p (.lst acc)) H ∧ aLcL ag at_ ae G (wipeA ρ vs) Q (ds.drop i) acc S2,
    ⟨ds.length, Nat.zero_le _, by omega, F1, S1, [], Nat.zero_le _, Same.refl _, T1.hide hp ⟨Nat.zero_le _, [], upd_same, .nil⟩, q1⟩, ?_⟩
  rintro i m H2 ⟨hi, rfl, F2, S2, acc, hl, e2, T2, q2⟩
  have gd := aLcL_guard q2
  have e12 := e1.trans e2
  have en2 := (en.wipe vs).mono e12
  by_cases lt : i < ds.length
  · right
    have hd : ds[i]? = some ds[i] := List.getElem?_eq_getElem lt
    rw [List.drop_eq_getElem_cons lt] at q2
    refine ⟨wk.goes i _ F2 S2 _ H2 e2 T2 gd hd, fun H' => ∃ F3 S3 acc, acc.length ≤ i + 1 ∧ Same F1 F3 ∧ Sta X.kw F3 S3 (put R p (.lst acc)) H' ∧ aLcL ag at_ ae G (wipeA ρ vs) Q (ds.drop (i + 1)) acc S3,
      fun H' z => ⟨ds.length - (i + 1), by omega, lt, rfl, z⟩, fun x H3 y => ?_⟩
    obtain ⟨F3, e3, T3, dv⟩ := wk.yields i _ F2 S2 _ H2 x H3 e2 T2 gd hd y
    refine hw x σ H3 _ (hg x _ _ H3 F3 S2 _ _ _ noX _ T3 (en2.mono e3) noWOk dv q2.2 fun σ4 H4 F4 S4 ρ4 e4 T4 en4 q4 => ?_)
    refine ht σ4 H4 F4 S4 _ ρ4 _ noX _ T4 en4 noWOk q4 fun b H5 F5 S5 e5 T5 q5 => ?_
    have e25 := ((e2.trans e3).trans e4).trans e5
    cases b with
    | false => exact ⟨F5, S5, acc, by omega, e25, T5, q5⟩
    | true =>
      refine he σ4 H5 F5 S5 _ ρ4 _ noX _ T5 (en4.mono e5) noWOk q5 fun v H6 F6 S6 d e6 T6 dv6 q6 => ?_
      obtain ⟨hF, hS, z, xs, hx, hxs⟩ := T6.hid p _ put_same
      have zl := wk.len
      have hz : xs.length = acc.length := hxs.len
      refine ⟨xs, hx, by omega, F6, S6, acc ++ [d], by simp; omega, e25.trans e6, T6.hwrite ⟨by simp; omega, xs ++ [v], upd_same, hxs.append (.cons dv6 .nil)⟩, q6⟩
  · left
    have ei : i = ds.length := by omega
    subst ei
    rw [List.drop_length] at q2
    refine ⟨wk.stops F2 S2 _ H2 e2 T2 gd, ?_⟩
    obtain ⟨hF, hS, z, xs, hx, hxs⟩ := T2.hid p _ put_same
    rcases q2.2 with q3 | q3
    · have T3 := (T2.unhide fR).freeze hx hS fR hF
      exact po (.ref p) H2 _ S2 (.lst acc) (e12.trans (same_upd hF)) T3 (.lst upd_same z (hxs.mono (same_upd hF))) q3
    · exact po (.ref p) H2 F2 _ (.own p) e12 (T2.show fR) (.own p) (q3 p hS)
/-- [elt for tg in iter if ..] -/
theorem ea_lc (hc : X.calm = true) (hN : X.N.Nodup) (hi : IA X W tg iter wi ai) (ok : BlkOk X.N X.env.scope scope own) (hw : WGt (own.map (·.2)) g)
    (hg : ∀ (s : Shared) (H : Hp) (C : Addr) (cl : List (Str × Addr)) (fp : List Addr), GA (X.blk s H scope (compEnvC scope cl C X.env) fp) W0 tg g ag)
    (ht : ∀ (s : Shared) (H : Hp) (C : Addr) (cl : List (Str × Addr)) (fp : List Addr), ∃ tt, TsA (X.blk s H scope (compEnvC scope cl C X.env) fp) ifs tt at_)
    (he : ∀ (s : Shared) (H : Hp) (C : Addr) (cl : List (Str × Addr)) (fp : List Addr), ∃ te, EA (X.blk s H scope (compEnvC scope cl C X.env) fp) W0 elt te ae)
    (z : Shared × Hp × Addr × List (Str × Addr) × List Addr)
    (hs : ∀ x, foldedSetIterable iter X.env x = pure x := by intros; rfl) : EA X W (.ListComp elt [⟨tg, iter, ifs, 0⟩] scope pos) (tLc wi g (tOfT X.kw W0 at_) (tOf X.kw W0 ae) (own.map (·.2))) (aLc ai ag at_ ae (own.map (·.2))) :=
  ⟨pe_lc hc hN hi.pi ok (fun s H C cl fp => (hg s H C cl fp).pg) (fun s H C cl fp => let ⟨_, h⟩ := ht s H C cl fp; pts_of h) (fun s H C cl fp => let ⟨_, h⟩ := he s H C cl fp; pe_of h) hs,
    re_lc hw hi.ri (hg z.1 z.2.1 z.2.2.1 z.2.2.2.1 z.2.2.2.2).rg rt_of re_of⟩
/-- name = [..] -/
theorem s_setLc {i : Nat} {y : Str} {py spos : Pos} (hc : X.calm = true) (hN : X.N.Nodup) (hi : IA X W tg iter wi ai) (ok : BlkOk X.N X.env.scope scope own) (hw : WGt (own.map (·.2)) g)
    (hg : ∀ (s : Shared) (H : Hp) (C : Addr) (cl : List (Str × Addr)) (fp : List Addr), GA (X.blk s H scope (compEnvC scope cl C X.env) fp) W0 tg g ag)
    (ht : ∀ (s : Shared) (H : Hp) (C : Addr) (cl : List (Str × Addr)) (fp : List Addr), ∃ tt, TsA (X.blk s H scope (compEnvC scope cl C X.env) fp) ifs tt at_)
    (he : ∀ (s : Shared) (H : Hp) (C : Addr) (cl : List (Str × Addr)) (fp : List Addr), ∃ te, EA (X.blk s H scope (compEnvC scope cl C X.env) fp) W0 elt te ae)
    (z : Shared × Hp × Addr × List (Str × Addr) × List Addr)
    (hy : X.N[i]? = some y := by rfl) (hyl : X.env.scope.names.lookup y = some .local := by rfl)
    (hsw : swapsWith (.ListComp elt [⟨tg, iter, ifs, 0⟩] scope pos) (some (.Name y py)) spos.line X.env = pure true := by exact sw_true rfl rfl rfl (by decide +kernel))
    (hs : ∀ x, foldedSetIterable iter X.env x = pure x := by intros; rfl) :
    SA X W (.Assign [.Name y py] (.ListComp elt [⟨tg, iter, ifs, 0⟩] scope pos) spos) (tAsg (tLc wi g (tOfT X.kw W0 at_) (tOf X.kw W0 ae) (own.map (·.2))) (gName i)) (aSet i (aLc ai ag at_ ae (own.map (·.2)))) :=
  ⟨ps_setLc hc hN hy hyl hsw hi.pi ok (fun s H C cl fp => (hg s H C cl fp).pg) (fun s H C cl fp => let ⟨_, h⟩ := ht s H C cl fp; pts_of h) (fun s H C cl fp => let ⟨_, h⟩ := he s H C cl fp; pe_of h) hs,
    fun σ H F S R ρ Da Dc T en wo dn q => re_lc hw hi.ri (hg z.1 z.2.1 z.2.2.1 z.2.2.2.1 z.2.2.2.2).rg rt_of re_of σ H F S R ρ _ _ _ T en (wo.at_ en) q
      fun v H1 F1 S1 d e1 T1 dv q1 => dn.nx _ H1 F1 S1 _ e1 T1 ((en.mono e1).set dv) q1⟩
end
end A

/-! ## defs, methods, instances -/
namespace A
open PySem PySem.Spec L2 PyProof.Rows

/-- another view of a value and of one's own objects: a list is data from now on, what plays no part is forgotten -/
def Gh (d : D) (S : Sto) (d' : D) (S' : Sto) : Prop := ∀ K F R H v, Sta K F S R H → Dv K F v d → ∃ F', Same F F' ∧ Sta K F' S' R H ∧ Dv K F' v d'
theorem gh_refl {d : D} {S : Sto} : Gh d S d S := fun K F R H v T dv => ⟨F, Same.refl _, T, dv⟩
theorem gh_drop {d : D} {S S' : Sto} (h : Sub S' S) : Gh d S d S' := fun K F R H v T dv => ⟨F, Same.refl _, T.drop h, dv⟩
theorem gh_freeze {p : Addr} {ds : List D} {S S' : Sto} (h : Sub S' S) (e : S p = some (.lst ds)) (n : S' p = none) : Gh (.own p) S (.lst ds) S' := fun K F R H v T dv => by
  cases dv with
  | own _ =>
    obtain ⟨hF, z, xs, hx, hxs⟩ := T.own p _ e
    have hR : R p = none := by
      cases q : R p with
      | none => rfl
      | some c => rw [(T.hid p c q).2.1] at e; cases e
    exact ⟨_, same_upd hF, (T.drop h).freeze hx n hR hF, .lst upd_same z (hxs.mono (same_upd hF))⟩
def Ret (Q : KD) : KD := fun d S => ∃ d' S', Gh d S d' S' ∧ Q d' S'
theorem ret {Q : KD} {d : D} {S : Sto} (h : Q d S) : Ret Q d S := ⟨d, S, gh_refl, h⟩
theorem ret_drop {Q : KD} {d : D} {S S' : Sto} (h : Q d S') (e : Sub S' S) : Ret Q d S := ⟨d, S', gh_drop e, h⟩
theorem ret_freeze {Q : KD} {p : Addr} {ds : List D} {S S' : Sto} (q : Q (.lst ds) S') (h : Sub S' S) (e : S p = some (.lst ds)) (n : S' p = none) : Ret Q (.own p) S := ⟨_, S', gh_freeze h e n, q⟩
theorem ret_post {K : KW} {F : Hp} {R : Sto} {Q : KD} {P : VK} (po : Post K F R Q P) : Post K F R (Ret Q) P := by
  rintro v H' F' S' d e T dv ⟨d', S2, g, q⟩
  obtain ⟨F2, e2, T2, dv2⟩ := g K F' R H' v T dv
  exact po v H' F2 S2 d' (e.trans e2) T2 dv2 q
def RetX (E : KX) : KX := fun x S => ∃ S', Sub S' S ∧ E x S'

abbrev SpA := List D → Sto → KD → KX → Prop
/-- what the heap has to bear for an abstract promise -/
def csp (K : KW) (sp : SpA) : Sp := fun vs H Qc Ec => ∃ ds F S R Q E, DvL K F vs ds ∧ Sta K F S R H ∧ sp ds S Q E ∧ Post K F R Q Qc ∧
  ∀ cls dd H' F' S' x, Same F F' → Sta K F' S' R H' → XR K F' H' cls dd x → E x S' → Ec cls dd H'
structure FnA (P : Program) (w : World) (K : PySem.W.Frag) (mg : Str → Option Value) (base : Heap) (k : Nat) (f : Addr) (fd : FuncData) (ps : List Str) (sp : SpA) : Prop where
  g : FnG P w K mg base k f fd ps (csp ⟨K, w⟩ sp)
section
variable {P : Program} {w : World} {K : PySem.W.Frag} {mg : Str → Option Value} {base : Heap}
theorem FnA.mono {j k : Nat} {f : Addr} {fd : FuncData} {ps : List Str} {sp : SpA} (F : FnA P w K mg base j f fd ps sp) (h : j ≤ k) : FnA P w K mg base k f fd ps sp := ⟨F.g.mono h⟩
theorem FnA.imp {k : Nat} {f : Addr} {fd : FuncData} {ps : List Str} {sp sp' : SpA} (F : FnA P w K mg base k f fd ps sp) (h : ∀ ds S Q E, sp' ds S Q E → sp ds S (Ret Q) (RetX E)) : FnA P w K mg base k f fd ps sp' := by
  refine ⟨F.g.imp ?_⟩
  rintro vs H Qc Ec ⟨ds, F, S, R, Q, E, dv, T, q, po, wx⟩
  refine ⟨ds, F, S, R, Ret Q, RetX E, dv, T, h ds S Q E q, ret_post po, ?_⟩
  rintro cls dd H' F' S' x e T' xr ⟨S2, sub, q2⟩
  exact wx cls dd H' F' S2 x e (T'.drop sub) xr q2
/-- the names' values at the entry -/
def startA (N : List Str) (ds : List D) : En := ds.map some ++ List.replicate (N.length - ds.length) none
theorem start_ok {K : KW} {F : Hp} {N : List Str} {vs : List V} {ds : List D} (h : DvL K F vs ds) : EnR K F (L2.start N vs) (startA N ds) := by
  have hl := h.len
  refine ⟨by unfold L2.start startA; simp [hl], fun i d q => ?_⟩
  unfold startA at q
  by_cases hi : i < ds.length
  · rw [List.getElem?_append_left (by simpa using hi), List.getElem?_map] at q
    cases e : ds[i]? with
    | none => rw [e] at q; cases q
    | some d' =>
      rw [e] at q
      cases q
      obtain ⟨v, h1, h2⟩ := h.getD e
      refine ⟨v, ?_, h2⟩
      unfold L2.start
      rw [List.getElem?_append_left (by rw [List.length_map]; omega), List.getElem?_map, h1]
      rfl
  · rw [List.getElem?_append_right (by simpa using hi), List.getElem?_replicate] at q
    split at q <;> cases q
abbrev wOf (E : XK) : WX := fun cls d _ H => E cls d H
def aEnd (Q : KD) (E : KX) : AEnds := { nx := fun _ S => Ret Q .non S, rt := Ret Q, xx := fun _ => RetX E }
theorem fnA_of {x qual : Str} {params : Arguments} {body : List Stmt} {scope : Scope} {dvs : List V} {kws : List (Str × V)} {f : Addr} {fd : FuncData} {N ps : List Str} {k : Nat} {sp : SpA} {a : AS}
    (F : FunD K x qual params body scope dvs kws f fd) (S : FnScope N ps scope) (len : ∀ ds S Q E, sp ds S Q E → ds.length = ps.length)
    (hb : ∀ (cdv : Value) (A : Around) (outer : List Env) (s : Shared) (H : Hp) (E : XK), RoomG k (A.deeper (envOfC qual scope s.heap.objs.size f cdv)) →
      ∃ t, SsA (cxOf (XT P w) P w K mg base N qual scope f cdv A outer s H E) (wOf E) body t a)
    (ha : ∀ ds S Q E, sp ds S Q E → a (aEnd Q E) (startA N ds) S) : FnA P w K mg base (k + 1) f fd ps sp := by
  refine ⟨fnG_of F S ?_ ?_⟩
  · rintro vs H Qc Ec ⟨ds, F, S, R, Q, E, dv, T, q, _⟩
    exact dv.len.trans (len ds S Q E q)
  · rintro cdv A outer s H vs Qc Ec hr ⟨ds, F', S', R, Q, E, dv, T, q, po, wx⟩
    obtain ⟨t, h⟩ := hb cdv A outer s H Ec hr
    refine ⟨t, h.ps, h.rs _ H F' S' R (startA N ds) (aEnd Q E) _ T (start_ok dv) ?_ ⟨?_, ret_post po, ?_, ?_⟩ (ha ds S' Q E q)⟩
    · rintro cls dd σ' H' F2 S2 ρ' x e T2 en xr ⟨S3, sub, q2⟩
      exact wx cls dd H' F2 S3 x e (T2.drop sub) xr q2
    · intro σ' H' F2 S2 ρ' e T2 en q2
      exact ret_post po .non H' F2 S2 .non e T2 .non q2
    · intro _ _ _ _ _ _ _ _ q2; exact q2.elim
    · intro _ _ _ _ _ _ _ _ q2; exact q2.elim
end
theorem takesT {P : Program} {w : World} {K : PySem.W.Frag} {mg : Str → Option Value} {base : Heap} {N : List Str} {qual : Str} {scope : Scope} {f : Addr} {cd : Value} {A : Around} {outer : List Env} {s : Shared} {H : Hp} {E : XK} :
    Takes (cxOf (XT P w) P w K mg base N qual scope f cd A outer s H E) (wOf E) := takes_of rfl rfl rfl rfl
theorem passT {P : Program} {w : World} {K : PySem.W.Frag} {mg : Str → Option Value} {base : Heap} {N : List Str} {qual : Str} {scope : Scope} {f : Addr} {cd : Value} {A : Around} {outer : List Env} {s : Shared} {H : Hp} {E : XK} :
    PassesOwn (model (cxOf (XT P w) P w K mg base N qual scope f cd A outer s H E).prog (cxOf (XT P w) P w K mg base N qual scope f cd A outer s H E).w) (cxOf (XT P w) P w K mg base N qual scope f cd A outer s H E).A
      (cxOf (XT P w) P w K mg base N qual scope f cd A outer s H E).env (cxOf (XT P w) P w K mg base N qual scope f cd A outer s H E).xe := passes_of rfl

/-! ### calls -/
/-- the module's name x is a def that keeps sp -/
structure GF (P : Program) (w : World) (K : PySem.W.Frag) (mg : Str → Option Value) (base : Heap) (x : Str) (k : Nat) (ps : List Str) (sp : SpA) : Prop where
  ex : ∃ f fd, mg x = some (.ref f) ∧ PySem.W.keepIn K (.ref f) = true ∧ Binds K fd ps [] ∧ FnA P w K mg base k f fd ps sp
/-- .. and what stands for its last parameters where they lack: dvs -/
structure GFd (P : Program) (w : World) (K : PySem.W.Frag) (mg : Str → Option Value) (base : Heap) (x : Str) (k : Nat) (ps : List Str) (dvs : List D) (sp : SpA) : Prop where
  ex : ∃ f fd vs us, mg x = some (.ref f) ∧ PySem.W.keepIn K (.ref f) = true ∧ Vals vs us ∧ (∀ F, DvL ⟨K, w⟩ F vs dvs) ∧ Binds K fd ps us ∧ FnA P w K mg base k f fd ps sp
section
variable {X : Cx} {W : WX} {k : Nat} {ps : List Str} {sp : SpA} {x m : Str} {p pos apos : Pos} {e o : Expr} {es : List Expr} {t : TA} {ar : AA} {to : TE} {ao : AE}
def tCl (K : KW) (W : WX) (sp : SpA) (t : TA) : TE := fun σ H Q => t σ H fun vs H1 => csp K sp vs H1 Q (WE W σ)
def aCl (sp : SpA) (ar : AA) : AE := fun ρ S Q E => ar ρ S (fun ds S1 => sp ds S1 (Ret Q) E) E
theorem csp_ok {K : KW} {F H : Hp} {S R : Sto} {σ : St} {vs : List V} {ds : List D} {Q : KD} {P : VK} {E : KX} (T : Sta K F S R H) (wo : WOk K F R σ W E) (dv : DvL K F vs ds) (q : sp ds S (Ret Q) E) (po : Post K F R Q P) :
    csp K sp vs H P (WE W σ) := ⟨ds, F, S, R, Ret Q, E, dv, T, q, ret_post po, fun cls dd H' F' S' x e T' xr q' => wo cls dd H' F' S' x e T' xr q'⟩
theorem re_cl (h : RA X.kw W t ar) : RE X.kw W (tCl X.kw W sp t) (aCl sp ar) := fun σ H F S R ρ Q E P T en wo q po =>
  h σ H F S R ρ _ E _ T en wo q fun vs H1 F1 S1 ds e1 T1 dvs q1 => csp_ok T1 (wo.mono e1) dvs q1 (po.mono e1)
theorem ea_call (G : GF X.prog X.w X.K X.mg X.base x k ps sp) (hr : RoomG k X.A) (tk : Takes X W) (h : ArA X W (e :: es) t ar) (hg : Gl X x := by rfl) (hdb : (x == ("__debug__" : Str)) = false := by decide)
    (he : starEach (e :: es) X.env = (false, eval e X.env) :: starEach es X.env := by rfl) (hpl : (backTo pos (starEach es X.env)).any (·.1) = false := by rfl) :
    EA X W (.Call (.Name x p) (e :: es) [] pos) (tCl X.kw W sp t) (aCl sp ar) := by
  obtain ⟨f, fd, hm, kp, hb, F⟩ := G.ex
  refine ⟨⟨fun pins s σ H Q I q => wpAny_Call_Name_kw (ld_glob I hg hm ?_ hdb)⟩, re_cl h.ra⟩
  refine PySem.W.callWith_K (h₀ := X.base) I.ok.mod.kin kp (thn (h.pa.run pos pins s σ H _ I q) fun us s1 ⟨vs, H1, I1, r, q1⟩ => ⟨I1.kIn, ?_⟩) he hpl
  have hl : (us ++ []).length = ps.length := by rw [List.append_nil, ← r.length]; exact F.g.len _ _ _ _ q1
  have hb' := hb s1 us I1.kIn hl
  rw [List.append_nil] at hb'
  exact run_g F.g hr tk I1 hb' r q1
theorem ea_call0 (G : GF X.prog X.w X.K X.mg X.base x k [] sp) (hr : RoomG k X.A) (tk : Takes X W) (hg : Gl X x := by rfl) (hdb : (x == ("__debug__" : Str)) = false := by decide) :
    EA X W (.Call (.Name x p) [] [] pos) (tCl X.kw W sp tNil) (aCl sp aNil) := by
  obtain ⟨f, fd, hm, kp, hb, F⟩ := G.ex
  refine ⟨⟨fun pins s σ H Q I q => wpAny_Call_Name_kw (ld_glob I hg hm ?_ hdb)⟩, re_cl (ar_nil (W := W)).ra⟩
  have hb' := hb s [] I.kIn rfl
  exact PySem.W.callWith_K0 I.kIn kp (run_g (us := []) F.g hr tk I hb' .nil q)
/-- the last parameters lack -/
def aClD (sp : SpA) (dvs : List D) (ar : AA) : AE := fun ρ S Q E => ar ρ S (fun ds S1 => sp (ds ++ dvs) S1 (Ret Q) E) E
theorem ea_callD {dvs : List D} (G : GFd X.prog X.w X.K X.mg X.base x k ps dvs sp) (hr : RoomG k X.A) (tk : Takes X W) (h : ArA X W (e :: es) t ar) (hg : Gl X x := by rfl) (hdb : (x == ("__debug__" : Str)) = false := by decide)
    (he : starEach (e :: es) X.env = (false, eval e X.env) :: starEach es X.env := by rfl) (hpl : (backTo pos (starEach es X.env)).any (·.1) = false := by rfl) :
    EA X W (.Call (.Name x p) (e :: es) [] pos) (fun σ H Q => t σ H fun vs H1 => ∃ ds F S R Q' E, DvL X.kw F vs ds ∧ Sta X.kw F S R H1 ∧ sp (ds ++ dvs) S Q' E ∧ Post X.kw F R Q' Q ∧ ∀ cls dd H' F' S' x, Same F F' → Sta X.kw F' S' R H' → XR X.kw F' H' cls dd x → E x S' → W cls dd σ H') (aClD sp dvs ar) := by
  obtain ⟨f, fd, ws, us2, hm, kp, hv, hdv, hb, F⟩ := G.ex
  refine ⟨⟨fun pins s σ H Q I q => wpAny_Call_Name_kw (ld_glob I hg hm ?_ hdb)⟩, fun σ H F S R ρ Q E P T en wo q po => h.ra σ H F S R ρ _ E _ T en wo q fun vs H1 F1 S1 ds e1 T1 dvs q1 =>
    ⟨ds, F1, S1, R, Ret Q, E, dvs, T1, q1, ret_post (po.mono e1), wo.mono e1⟩⟩
  refine PySem.W.callWith_K (h₀ := X.base) I.ok.mod.kin kp (thn (h.pa.run pos pins s σ H _ I q) fun us s1 ⟨vs, H1, I1, r, ds, F0, S0, R0, Q0, E0, d0, T0, q0, p0, x0⟩ => ⟨I1.kIn, ?_⟩) he hpl
  have q1 : csp X.kw sp (vs ++ ws) H1 Q (WE W σ) := ⟨ds ++ dvs, F0, S0, R0, Q0, E0, d0.append (hdv F0), T0, q0, p0, x0⟩
  have r2 := r.append hv
  exact run_g F.g hr tk I1 (hb s1 us I1.kIn (by rw [← r2.length]; exact F.g.len _ _ _ _ q1)) r2 q1

/-! ### instances -/
/-- the class at C: fields may be read and stored (those that it has not itself) -/
structure MF (P : Program) (w : World) (K : PySem.W.Frag) (mg : Str → Option Value) (base : Heap) (C : Addr) (m : Str) (k : Nat) (ps : List Str) (sp : SpA) : Prop where
  cl : Cls K C
  ex : ∃ f fd, Meth K C m f ∧ Binds K fd ps [] ∧ FnA P w K mg base k f fd ps sp
def insOf (S : Sto) (d : D) : Option (Addr × List (Str × D)) := match d with
  | .own a => match S a with | some (.ins C fs) => some (C, fs) | _ => none
  | _ => none
theorem insOf_ok {K : KW} {F H : Hp} {S R : Sto} {v : V} {d : D} {C : Addr} {fs : List (Str × D)} (T : Sta K F S R H) (h : Dv K F v d) (q : insOf S d = some (C, fs)) :
    ∃ a dx gs, d = .own a ∧ v = .ref a ∧ S a = some (.ins C fs) ∧ H a = some (.ins C dx gs) ∧ DvP K F gs fs := by
  cases h with
  | own a =>
    have q2 : (match S a with | some (.ins C fs) => some (C, fs) | _ => none) = some (C, fs) := q
    split at q2
    · rename_i C' fs' e
      cases q2
      obtain ⟨_, dx, gs, h1, h2⟩ := T.own _ _ e
      exact ⟨a, dx, gs, rfl, rfl, e, h1, h2⟩
    · cases q2
  | _ => cases q
theorem DvP.none {κ : Type} [BEq κ] {K : KW} {F : Hp} {l : List (κ × V)} {q : List (κ × D)} {k : κ} (h : DvP K F l q) (e : q.lookup k = none) : l.lookup k = none := by
  rcases h.lookup (k := k) with ⟨_, z⟩ | ⟨d, v, z, _⟩
  · exact z
  · rw [e] at z; cases z
theorem DvP.some {κ : Type} [BEq κ] {K : KW} {F : Hp} {l : List (κ × V)} {q : List (κ × D)} {k : κ} {d : D} (h : DvP K F l q) (e : q.lookup k = some d) : ∃ v, l.lookup k = some v ∧ Dv K F v d := by
  rcases h.lookup (k := k) with ⟨z, _⟩ | ⟨d', v, z, z2, z3⟩
  · rw [e] at z; cases z
  · rw [e] at z; cases z; exact ⟨v, z2, z3⟩
/-- o.m(e, ..): any of the classes that ok tells -/
def tMt (K : KW) (W : WX) (ok : Addr → Prop) (m : Str) (sp : SpA) (to : TE) (t : TA) : TE := fun σ H Q => to σ H fun x H1 => ∃ a C dx gs, x = .ref a ∧ ok C ∧ H1 a = some (.ins C dx gs) ∧ gs.lookup m = none ∧
  t σ H1 fun vs H2 => csp K sp (x :: vs) H2 Q (WE W σ)
def aMt (ok : Addr → Prop) (m : Str) (sp : SpA) (ao : AE) (ar : AA) : AE := fun ρ S Q E => ao ρ S (fun d S1 => ∃ C fs, insOf S1 d = some (C, fs) ∧ ok C ∧ fs.lookup m = none ∧ ar ρ S1 (fun ds S2 => sp (d :: ds) S2 (Ret Q) E) E) E
theorem re_mt {ok : Addr → Prop} (ho : RE X.kw W to ao) (h : RA X.kw W t ar) : RE X.kw W (tMt X.kw W ok m sp to t) (aMt ok m sp ao ar) := fun σ H F S R ρ Q E P T en wo q po =>
  ho σ H F S R ρ _ E _ T en wo q fun v H1 F1 S1 d e1 T1 dv ⟨C, fs, hi, okC, hn, q1⟩ => by
    obtain ⟨a, dx, gs, rfl, rfl, hS, hH, hp⟩ := insOf_ok T1 dv hi
    refine ⟨a, C, dx, gs, rfl, okC, hH, hp.none hn, ?_⟩
    exact h σ H1 F1 S1 R ρ _ E _ T1 (en.mono e1) (wo.mono e1) q1 fun vs H2 F2 S2 ds e2 T2 dvs q2 => csp_ok T2 (wo.mono (e1.trans e2)) (.cons (dv.mono e2) dvs) q2 (po.mono (e1.trans e2))
theorem ea_meth {ok : Addr → Prop} {pl : Sem Bool} (ho : EA X W o to ao) (M : ∀ C, ok C → MF X.prog X.w X.K X.mg X.base C m k ps sp) (hr : RoomG k X.A) (tk : Takes X W) (h : ArA X W (e :: es) t ar)
    (hst : starEach (e :: es) X.env = (false, eval e X.env) :: starEach es X.env := by rfl) (hpl : (backTo pos (starEach es X.env)).any (·.1) = false := by rfl)
    (ht : eval (.Call (.Attribute o m apos) (e :: es) [] pos) X.env = (do
      let ov ← eval o X.env
      standAt apos.atName
      let (f, first) ← holding [ov] (getMethod ov m pl)
      callWith pos f first (backTo pos (starEach (e :: es) X.env)) (backToKw pos (keywordEach [] X.env))) := by rfl) :
    EA X W (.Call (.Attribute o m apos) (e :: es) [] pos) (tMt X.kw W ok m sp to t) (aMt ok m sp ao ar) := by
  refine ⟨⟨fun pins s σ H Q I q => ?_⟩, re_mt ho.re h.ra⟩
  refine PySem.W.methodCall_KW (pl := pl) (thn (ho.pe.run pins s σ H _ I q) fun u s1 ⟨x, H1, I1, rx, a, C, dx, gs, ex, okC, ea, l, q1⟩ => ?_) ht
  subst ex
  cases rx
  have MC := M C okC
  obtain ⟨f, fd, hm, hb, F⟩ := MC.ex
  refine getmeth_ok I1 ea MC.cl hm l ?_
  refine PySem.W.callWith_K (first := [.ref a]) (h₀ := X.base) I.ok.mod.kin hm.kp (thn (h.pa.run pos pins s1 σ H1 _ I1 q1) fun us s2 ⟨vs, H2, I2, r, q2⟩ => ⟨I2.kIn, ?_⟩) hst hpl
  have r2 : Vals (.ref a :: vs) (.ref a :: us) := .cons rfl r
  have hb' := hb s2 (.ref a :: us) I2.kIn (by rw [List.append_nil, ← r2.length]; exact F.g.len _ _ _ _ q2)
  rw [List.append_nil] at hb'
  exact run_g F.g hr tk I2 hb' r2 q2
theorem ea_meth0 {ok : Addr → Prop} {pl : Sem Bool} (ho : EA X W o to ao) (M : ∀ C, ok C → MF X.prog X.w X.K X.mg X.base C m k ps sp) (hr : RoomG k X.A) (tk : Takes X W)
    (ht : eval (.Call (.Attribute o m apos) [] [] pos) X.env = (do
      let ov ← eval o X.env
      standAt apos.atName
      let (f, first) ← holding [ov] (getMethod ov m pl)
      callWith pos f first (backTo pos (starEach [] X.env)) (backToKw pos (keywordEach [] X.env))) := by rfl) :
    EA X W (.Call (.Attribute o m apos) [] [] pos) (tMt X.kw W ok m sp to tNil) (aMt ok m sp ao aNil) := by
  refine ⟨⟨fun pins s σ H Q I q => ?_⟩, re_mt ho.re (ar_nil (W := W)).ra⟩
  refine PySem.W.methodCall_KW (pl := pl) (thn (ho.pe.run pins s σ H _ I q) fun u s1 ⟨x, H1, I1, rx, a, C, dx, gs, ex, okC, ea, l, q1⟩ => ?_) ht
  subst ex
  cases rx
  have MC := M C okC
  obtain ⟨f, fd, hm, hb, F⟩ := MC.ex
  refine getmeth_ok I1 ea MC.cl hm l ?_
  have r2 : Vals [.ref a] [.ref a] := .cons rfl .nil
  have hb' := hb s1 [.ref a] I1.kIn (by rw [List.append_nil, ← r2.length]; exact F.g.len _ _ _ _ q1)
  exact PySem.W.callWith_K0 (first := [.ref a]) I1.kIn hm.kp (run_g F.g hr tk I1 hb' r2 q1)
/-- C(e, ..) -/
structure CF (P : Program) (w : World) (K : PySem.W.Frag) (mg : Str → Option Value) (base : Heap) (x : Str) (C : Addr) (k : Nat) (ps : List Str) (sp : SpA) : Prop where
  ex : ∃ f fd, mg x = some (.ref C) ∧ Mk K C f ∧ Binds K fd ps [] ∧ FnA P w K mg base k f fd ps sp
def tMkA (K : KW) (W : WX) (C : Addr) (sp : SpA) (t : TA) : TE := fun σ H Q => t σ H fun vs H1 => ∀ y dx, H1 y = none → H1 dx = none → dx ≠ y →
  csp K sp (.ref y :: vs) (upd (upd H1 dx (.own y)) y (.ins C dx [])) (fun v H2 => v = .non ∧ Q (.ref y) H2) (WE W σ)
def aMk (C : Addr) (sp : SpA) (ar : AA) : AE := fun ρ S Q E => ar ρ S (fun ds S1 => ∀ y, S1 y = none → sp (.own y :: ds) (put S1 y (.ins C [])) (Ret fun v S2 => v = .non ∧ Ret Q (.own y) S2) E) E
theorem Sta.junk {K : KW} {F H : Hp} {S R : Sto} {p : Addr} {u : HO} (T : Sta K F S R H) (h : H p = none) : Sta K F S R (upd H p u) := by
  have kH : Same H (upd H p u) := same_upd h
  exact ⟨T.le.trans kH, fun b c e => ⟨(T.own b c e).1, (T.own b c e).2.mono (Same.refl _) fun u z => kH b u z⟩, fun b c e => ⟨(T.hid b c e).1, (T.hid b c e).2.1, (T.hid b c e).2.2.mono (Same.refl _) fun u z => kH b u z⟩⟩
theorem re_mk {C : Addr} (h : RA X.kw W t ar) : RE X.kw W (tMkA X.kw W C sp t) (aMk C sp ar) := fun σ H F S R ρ Q E P T en wo q po =>
  h σ H F S R ρ _ E _ T en wo q fun vs H1 F1 S1 ds e1 T1 dvs q1 => by
    intro y dx hy hdx ne
    have T2 := T1.junk (u := .own y) hdx
    have hy2 : upd H1 dx (.own y) y = none := by rw [upd_ne (Ne.symm ne)]; exact hy
    have T3 := T2.owned (c := .ins C []) hy2 ⟨dx, [], upd_same, .nil⟩
    refine ⟨.own y :: ds, F1, _, R, _, E, .cons (.own y) dvs, T3, q1 y (T1.free hy).2.1, ?_, wo.mono e1⟩
    refine ret_post fun v H2 F2 S2 d e2 T4 dv q2 => ?_
    obtain ⟨rfl, q3⟩ := q2
    cases dv
    exact ⟨rfl, ret_post (po.mono (e1.trans e2)) (.ref y) H2 F2 S2 (.own y) (Same.refl _) T4 (.own y) q3⟩
theorem ea_make {C : Addr} (G : CF X.prog X.w X.K X.mg X.base x C k ps sp) (hr : RoomG (k + 1) X.A) (tk : Takes X W) (h : ArA X W (e :: es) t ar) (hg : Gl X x := by rfl) (hdb : (x == ("__debug__" : Str)) = false := by decide)
    (he : starEach (e :: es) X.env = (false, eval e X.env) :: starEach es X.env := by rfl) (hpl : (backTo pos (starEach es X.env)).any (·.1) = false := by rfl) :
    EA X W (.Call (.Name x p) (e :: es) [] pos) (tMkA X.kw W C sp t) (aMk C sp ar) := by
  obtain ⟨f, fd, hm, M, hb, F⟩ := G.ex
  refine ⟨⟨fun pins s σ H Q I q => wpAny_Call_Name_kw (ld_glob I hg hm ?_ hdb)⟩, re_mk h.ra⟩
  refine PySem.W.callWith_K (h₀ := X.base) I.ok.mod.kin M.kp (thn (h.pa.run pos pins s σ H _ I q) fun us s1 ⟨vs, H1, I1, r, q1⟩ => ⟨I1.kIn, ?_⟩) he hpl
  refine run_mk M F.g hr tk I1 (fun z => z) (fun z => z) (fun s2 y hK => ?_) r q1
  have hl : vs.length + 1 = ps.length := F.g.len _ _ _ _ (q1 (s1.heap.objs.size + 1) s1.heap.objs.size (I1.hok.fresh (Nat.le_succ _)) (I1.hok.fresh (Nat.le_refl _)) (Nat.ne_of_lt (Nat.lt_succ_self _)))
  have hb' := hb s2 (y :: us) hK (by rw [List.append_nil, List.length_cons, ← r.length]; exact hl)
  rw [List.append_nil] at hb'
  exact hb'
/-! ### fields -/
structure FdOk (K : PySem.W.Frag) (C : Addr) (f : Str) : Prop where
  cl : Cls K C
  no : NoAttr K C f
def aFl (ok : Addr → Prop) (f : Str) (ao : AE) : AE := fun ρ S Q E => ao ρ S (fun d S1 => ∃ C fs g, insOf S1 d = some (C, fs) ∧ ok C ∧ fs.lookup f = some g ∧ Q g S1) E
theorem ea_fld {ok : Addr → Prop} {f : Str} (ho : EA X W o to ao) (M : ∀ C, ok C → FdOk X.K C f) (hb : attributeBase o f X.env (eval o X.env) = eval o X.env := by rfl) : EA X W (.Attribute o f pos) (tFld X.K to f) (aFl ok f ao) := by
  refine ⟨pe_fld ho.pe hb, fun σ H F S R ρ Q E P T en wo q po => ho.re σ H F S R ρ _ E _ T en wo q fun v H1 F1 S1 d e1 T1 dv ⟨C, fs, g, hi, okC, hl, q1⟩ => ?_⟩
  obtain ⟨a, dx, gs, rfl, rfl, hS, hH, hp⟩ := insOf_ok T1 dv hi
  obtain ⟨v, h1, h2⟩ := hp.some hl
  exact ⟨a, C, dx, gs, v, rfl, hH, (M C okC).cl, (M C okC).no, h1, po v H1 F1 S1 g e1 T1 h2 q1⟩
def putA (f : Str) (d : D) : List (Str × D) → List (Str × D)
  | [] => [(f, d)]
  | p :: r => if p.1 = f then (f, d) :: r else p :: putA f d r
theorem DvP.put {K : KW} {F : Hp} {f : Str} {v : V} {d : D} (h : Dv K F v d) : ∀ {l : List (Str × V)} {q : List (Str × D)}, DvP K F l q → DvP K F (putF f v l) (putA f d q)
  | _, _, .nil => .cons ⟨rfl, h⟩ .nil
  | (k1, v1) :: l, (k2, d1) :: q, .cons h1 t => by
    have e : k1 = k2 := h1.1
    subst e
    unfold putF putA
    by_cases z : k1 = f
    · subst z
      rw [if_pos rfl, if_pos rfl]
      exact .cons ⟨rfl, h⟩ t
    · rw [if_neg z, if_neg z]
      exact .cons h1 (DvP.put h t)
def aFst (ok : Addr → Prop) (f : Str) (ao av : AE) : AS := fun D ρ S => av ρ S (fun d S1 => ao ρ S1 (fun o S2 => ∃ a C fs, o = .own a ∧ S2 a = some (.ins C fs) ∧ ok C ∧ fs.length < 1000 ∧ D.nx ρ (put S2 a (.ins C (putA f d fs)))) (D.xx ρ)) (D.xx ρ)
theorem s_fld {ok : Addr → Prop} {f : Str} {value : Expr} {tv : TE} {av : AE} {pos' : Pos} (hv : EA X W value tv av) (ho : EA X W o to ao) (M : ∀ C, ok C → FdOk X.K C f) (hs : swapsWith value (some (.Attribute o f pos')) pos.line X.env = pure false := by rfl) :
    SA X W (.Assign [.Attribute o f pos'] value pos) (sFld X.K to tv f) (aFst ok f ao av) := by
  refine ⟨ps_fld ho.pe hv.pe hs, fun σ H F S R ρ Da Dc T en wo dn q => hv.re σ H F S R ρ _ _ _ T en (wo.at_ en) q fun v H1 F1 S1 d e1 T1 dv q1 => ?_⟩
  refine ho.re σ H1 F1 S1 R ρ _ _ _ T1 (en.mono e1) ((wo.at_ en).mono e1) q1 fun u H2 F2 S2 o e2 T2 du q2 => ?_
  obtain ⟨a, C, fs, rfl, hS, okC, hz, q3⟩ := q2
  obtain ⟨a', dx, gs, e3, rfl, hS', hH, hp⟩ := insOf_ok (d := .own a) (C := C) (fs := fs) T2 du (by show (match S2 a with | some (.ins C fs) => some (C, fs) | _ => none) = _; rw [hS])
  cases e3
  have hlen : gs.length = fs.length := by
    have : ∀ {l : List (Str × V)} {q : List (Str × D)}, DvP X.kw F2 l q → l.length = q.length := fun h => Paired.length h
    exact this hp
  refine ⟨a, C, dx, gs, rfl, hH, (M C okC).cl, (M C okC).no, by omega, ?_⟩
  exact dn.nx σ _ F2 _ ρ (e1.trans e2) (T2.write (c' := .ins C (putA f d fs)) hS ⟨dx, _, upd_same, hp.put (dv.mono e2)⟩) (en.mono (e1.trans e2)) q3
end
end A

/-! ## data as a whole: ==, in, repr; operators, built-in functions by values -/
namespace A
open PySem PySem.Spec L2 PyProof.Rows

/-! ### deep data -/
def rdL (f : D → Option PyData) : List D → Option (List PyData)
  | [] => some []
  | d :: r => match f d, rdL f r with
    | some p, some q => some (p :: q)
    | _, _ => none
def rd (S : Sto) : Nat → D → Option PyData
  | 0, _ => none
  | n + 1, d => match d with
    | .non => some .none
    | .bl b => some (.bool b)
    | .int i => some (.int i)
    | .str x => if PyData.strOk x then some (.str x) else none
    | .lst l => (rdL (rd S n) l).map .list
    | .tup l => (rdL (rd S n) l).map .tuple
    | .own a => match S a with | some (.lst l) => (rdL (rd S n) l).map .list | _ => none
    | _ => none
/-- the value is to be read as p in every heap that H tells -/
theorem rd_dp {K : KW} {F H : Hp} {S R : Sto} (T : Sta K F S R H) : ∀ (n : Nat) (d : D) (v : V) (p : PyData), Dv K F v d → rd S n d = some p → Dp K.K H v p := by
  intro n
  induction n with
  | zero => intro d v p _ e; cases e
  | succ n ih =>
    have all : ∀ (l : List D) (xs : List V) (q : List PyData), DvL K F xs l → rdL (rd S n) l = some q → DpAll K.K H xs q := by
      intro l
      induction l with
      | nil =>
        intro xs q h e
        cases h
        cases e
        exact .nil
      | cons d l ihl =>
        intro xs q h e
        cases h with
        | cons h1 h2 =>
          unfold rdL at e
          cases e1 : rd S n d with
          | none => rw [e1] at e; cases e
          | some p =>
            cases e2 : rdL (rd S n) l with
            | none => rw [e1, e2] at e; cases e
            | some q' =>
              rw [e1, e2] at e
              cases e
              exact .cons (ih d _ p h1 e1) (ihl _ q' h2 e2)
    intro d v p h e
    cases h with
    | non => cases e; exact .non
    | bl b => cases e; exact .bl b
    | int i => cases e; exact .int i
    | str x =>
      have e' : (if PyData.strOk x then some (PyData.str x) else none) = some p := e
      split at e' <;> cases e'
      exact .str x
    | lst h z l =>
      have e' : (rdL (rd S n) _).map PyData.list = some p := e
      obtain ⟨q, e1, e2⟩ := Option.map_eq_some_iff.mp e'
      subst e2
      exact .lst (SqL.of (T.le _ _ h)) (all _ _ q l e1)
    | tup h z l =>
      have e' : (rdL (rd S n) _).map PyData.tuple = some p := e
      obtain ⟨q, e1, e2⟩ := Option.map_eq_some_iff.mp e'
      subst e2
      exact .tup (SqT.same T.le h) (all _ _ q l e1)
    | own a =>
      have e' : (match S a with | some (.lst l) => (rdL (rd S n) l).map PyData.list | _ => none) = some p := e
      split at e'
      · rename_i l hl
        obtain ⟨q, e1, e2⟩ := Option.map_eq_some_iff.mp e'
        subst e2
        obtain ⟨_, z, xs, h1, h2⟩ := T.own _ _ hl
        exact .lst (SqL.of h1) (all _ _ q h2 e1)
      · cases e'
    | _ => cases e
theorem rdL_map {α : Type} {f : D → Option PyData} {g : α → D} {h : α → PyData} (e : ∀ a, f (g a) = some (h a)) : ∀ l : List α, rdL f (l.map g) = some (l.map h)
  | [] => rfl
  | a :: l => by
    rw [List.map_cons, List.map_cons]
    show (match f (g a), rdL f (l.map g) with | some p, some q => some (p :: q) | _, _ => none) = _
    rw [e a, rdL_map e l]
theorem rdL_mapM {α : Type} {f : D → Option PyData} {g : α → D} {h : α → PyData} : ∀ l : List α, (∀ a ∈ l, f (g a) = some (h a)) → rdL f (l.map g) = some (l.map h)
  | [], _ => rfl
  | a :: l, e => by
    rw [List.map_cons, List.map_cons]
    show (match f (g a), rdL f (l.map g) with | some p, some q => some (p :: q) | _, _ => none) = _
    rw [e a List.mem_cons_self, rdL_mapM l fun b hb => e b (List.mem_cons_of_mem _ hb)]
/-- what is read may be compared and shown -/
theorem rd_lay {S : Sto} : ∀ (n : Nat) (d : D) (p : PyData), rd S n d = some p → p.canLay0 = true ∧ p.depth ≤ n := by
  intro n
  induction n with
  | zero => intro d p e; cases e
  | succ n ih =>
    have all : ∀ (l : List D) (q : List PyData), rdL (rd S n) l = some q → PyData.canLayAll0 q = true ∧ PyData.depthAll q ≤ n := by
      intro l
      induction l with
      | nil => intro q e; cases e; exact ⟨rfl, Nat.zero_le _⟩
      | cons d l ihl =>
        intro q e
        unfold rdL at e
        cases e1 : rd S n d with
        | none => rw [e1] at e; cases e
        | some p =>
          cases e2 : rdL (rd S n) l with
          | none => rw [e1, e2] at e; cases e
          | some q' =>
            rw [e1, e2] at e
            cases e
            obtain ⟨h1, h2⟩ := ih d p e1
            obtain ⟨h3, h4⟩ := ihl q' e2
            exact ⟨by simp only [PyData.canLayAll0, h1, h3, Bool.and_self], by simp only [PyData.depthAll]; omega⟩
    have fin : ∀ (l : List D) (p : PyData) (g : List PyData → PyData), (∀ q, (g q).canLay0 = PyData.canLayAll0 q ∧ (g q).depth = PyData.depthAll q + 1) → (rdL (rd S n) l).map g = some p → p.canLay0 = true ∧ p.depth ≤ n + 1 := by
      intro l p g hg e
      obtain ⟨q, e1, rfl⟩ := Option.map_eq_some_iff.mp e
      obtain ⟨h1, h2⟩ := all l q e1
      obtain ⟨g1, g2⟩ := hg q
      exact ⟨g1.trans h1, by omega⟩
    have hl : ∀ q, (PyData.list q).canLay0 = PyData.canLayAll0 q ∧ (PyData.list q).depth = PyData.depthAll q + 1 := fun q => ⟨by simp only [PyData.canLay0], by simp only [PyData.depth]⟩
    have ht : ∀ q, (PyData.tuple q).canLay0 = PyData.canLayAll0 q ∧ (PyData.tuple q).depth = PyData.depthAll q + 1 := fun q => ⟨by simp only [PyData.canLay0], by simp only [PyData.depth]⟩
    intro d p e
    cases d with
    | non => cases e; exact ⟨rfl, Nat.zero_le _⟩
    | bl b => cases e; exact ⟨rfl, Nat.zero_le _⟩
    | int i => cases e; exact ⟨rfl, Nat.zero_le _⟩
    | str x =>
      have e' : (if PyData.strOk x then some (PyData.str x) else none) = some p := e
      split at e'
      · rename_i h
        cases e'
        exact ⟨by simp only [PyData.canLay0, h], Nat.zero_le _⟩
      · cases e'
    | lst l => exact fin l p _ hl e
    | tup l => exact fin l p _ ht e
    | own a =>
      have e' : (match S a with | some (.lst l) => (rdL (rd S n) l).map PyData.list | _ => none) = some p := e
      split at e'
      · exact fin _ p _ hl e'
      · cases e'
    | _ => cases e
theorem rd_shaped {S : Sto} {n : Nat} {d : D} {p : PyData} (h : rd S n d = some p) (hn : n ≤ 60) : SeqAt.shaped p = true := by
  obtain ⟨h1, h2⟩ := rd_lay n d p h
  unfold SeqAt.shaped
  rw [h1, decide_eq_true (by omega : p.depth ≤ 64)]
  rfl
/-- == -/
def aEqD (neg : Bool) : O2 := fun d e S Q => match d, e with
  | .int i, .int j => Q (.bl (if neg then !decide (i = j) else decide (i = j))) S
  | .str i, .str j => Q (.bl (if neg then !decide (i = j) else decide (i = j))) S
  | .bl i, .bl j => Q (.bl (if neg then !decide (i = j) else decide (i = j))) S
  | d, e => ∃ n p q, n ≤ 60 ∧ rd S n d = some p ∧ rd S n e = some q ∧ Q (.bl (if neg then !PyData.eqv p q else PyData.eqv p q)) S
theorem eqD_ok {K : KW} {neg : Bool} {f : V → V → Bool} (hf : ∀ x y, f x y = (if neg then !decide (x = y) else decide (x = y))) : R2k K (fun x y H Q => (scal x y = true ∧ Q (.bl (f x y)) H) ∨ ∃ d e, Dp K.K H x d ∧ Dp K.K H y e ∧ SeqAt.shaped d = true ∧ SeqAt.shaped e = true ∧ Q (.bl (if neg then !PyData.eqv d e else PyData.eqv d e)) H) (aEqD neg) := by
  intro x y d e H F S R Q P T dx dy q po
  have deep : (∃ n p q, n ≤ 60 ∧ rd S n d = some p ∧ rd S n e = some q ∧ Q (.bl (if neg then !PyData.eqv p q else PyData.eqv p q)) S) → (scal x y = true ∧ P (.bl (f x y)) H) ∨ ∃ d e, Dp K.K H x d ∧ Dp K.K H y e ∧ SeqAt.shaped d = true ∧ SeqAt.shaped e = true ∧ P (.bl (if neg then !PyData.eqv d e else PyData.eqv d e)) H := by
    rintro ⟨n, p, p', hn, h1, h2, q⟩
    exact .inr ⟨p, p', rd_dp T n d x p dx h1, rd_dp T n e y p' dy h2, rd_shaped h1 hn, rd_shaped h2 hn, po _ H F S _ (Same.refl _) T (.bl _) q⟩
  unfold aEqD at q
  split at q
  · cases dx; cases dy
    exact .inl ⟨rfl, po _ H F S _ (Same.refl _) T (.bl _) (by rw [hf]; simpa using q)⟩
  · cases dx; cases dy
    exact .inl ⟨rfl, po _ H F S _ (Same.refl _) T (.bl _) (by rw [hf]; simpa using q)⟩
  · cases dx; cases dy
    exact .inl ⟨rfl, po _ H F S _ (Same.refl _) T (.bl _) (by rw [hf]; simpa using q)⟩
  · exact deep q
theorem o_eq {X : Cx} (hr : ∃ k, RoomG k X.A) : OpA X (compareOp .Eq) (fun x y H Q => rEq x y H Q ∨ rEqD X.K x y H Q) (aEqD false) := by
  obtain ⟨k, hr⟩ := hr
  exact ⟨op_eq.or (op_eqD hr.room.units), eqD_ok (neg := false) fun _ _ => rfl⟩
theorem o_ne {X : Cx} (hr : ∃ k, RoomG k X.A) : OpA X (compareOp .NotEq) (fun x y H Q => rNe x y H Q ∨ rNeD X.K x y H Q) (aEqD true) := by
  obtain ⟨k, hr⟩ := hr
  exact ⟨op_ne.or (op_neD hr.room.units), eqD_ok (neg := true) fun _ _ => rfl⟩

/-! ### ints -/
section
variable {X : Cx}
def aI2 (C : Int → Int → Prop) (g : Int → Int → D) : O2 := fun d e S Q => onII (fun i j => C i j ∧ Q (g i j) S) d e
theorem k_i2 {K : KW} {C : Int → Int → Prop} {g : Int → Int → V} {g' : Int → Int → D} (hg : ∀ F i j, Dv K F (g i j) (g' i j)) : R2k K (rI C g) (aI2 C g') := by
  intro x y d e H F S R Q P T dx dy q po
  cases dx with
  | int i =>
    cases dy with
    | int j => exact ⟨i, j, rfl, rfl, q.1, po _ H F S _ (Same.refl _) T (hg F i j) q.2⟩
    | _ => exact (show False from q).elim
  | _ => exact (show False from q).elim
def aI20 (g : Int → Int → D) : O2 := fun d e S Q => onII (fun i j => Q (g i j) S) d e
theorem k_i20 {K : KW} {g : Int → Int → V} {g' : Int → Int → D} (hg : ∀ F i j, Dv K F (g i j) (g' i j)) : R2k K (rI0 g) (aI20 g') := by
  intro x y d e H F S R Q P T dx dy q po
  cases dx with
  | int i =>
    cases dy with
    | int j => exact ⟨i, j, rfl, rfl, po _ H F S _ (Same.refl _) T (hg F i j) q⟩
    | _ => exact (show False from q).elim
  | _ => exact (show False from q).elim
abbrev aSub : O2 := aI20 fun i j => .int (i - j)
theorem o_sub : OpA X (binaryOp .Sub) (rI0 fun i j => .int (i - j)) aSub := ⟨op_sub, k_i20 fun _ _ _ => .int _⟩
abbrev aMod : O2 := aI2 (fun _ j => 0 < j) fun i j => .int (i % j)
theorem o_mod : OpA X (binaryOp .Mod) (rI (fun _ j => 0 < j) fun i j => .int (i % j)) aMod := ⟨op_mod, k_i2 fun _ _ _ => .int _⟩
abbrev aFdv : O2 := aI2 CDivW fun i j => .int (i / j)
theorem o_fdiv : OpA X (binaryOp .FloorDiv) (rI CDivW fun i j => .int (i / j)) aFdv := ⟨op_fdivW, k_i2 fun _ _ _ => .int _⟩
abbrev aPow : O2 := aI2 CPow fun i j => .int (i ^ j.toNat)
theorem o_pow : OpA X (binaryOp .Pow) (rI CPow fun i j => .int (i ^ j.toNat)) aPow := ⟨op_pow, k_i2 fun _ _ _ => .int _⟩
abbrev aShl : O2 := aI2 CPow fun i j => .int (i * 2 ^ j.toNat)
theorem o_shl : OpA X (binaryOp .LShift) (rI CPow fun i j => .int (i * 2 ^ j.toNat)) aShl := ⟨op_shl, k_i2 fun _ _ _ => .int _⟩
abbrev aShr : O2 := aI2 (fun _ j => 0 ≤ j) fun i j => .int (i / 2 ^ j.toNat)
theorem o_shr : OpA X (binaryOp .RShift) (rI (fun _ j => 0 ≤ j) fun i j => .int (i / 2 ^ j.toNat)) aShr := ⟨op_shr, k_i2 fun _ _ _ => .int _⟩
abbrev aXor : O2 := aI20 fun i j => .int (Builtin.bitXor i j)
theorem o_bxor : OpA X (binaryOp .BitXor) (rI0 fun i j => .int (Builtin.bitXor i j)) aXor := ⟨op_xor, k_i20 fun _ _ _ => .int _⟩
abbrev aLt : O2 := aI20 fun i j => .bl (decide (i < j))
theorem o_lt : OpA X (compareOp .Lt) (rI0 fun i j => .bl (decide (i < j))) aLt := ⟨op_lt, k_i20 fun _ _ _ => .bl _⟩
abbrev aLe : O2 := aI20 fun i j => .bl (decide (i ≤ j))
theorem o_le : OpA X (compareOp .LtE) (rI0 fun i j => .bl (decide (i ≤ j))) aLe := ⟨op_le, k_i20 fun _ _ _ => .bl _⟩
abbrev aGt : O2 := aI20 fun i j => .bl (decide (j < i))
theorem o_gt : OpA X (compareOp .Gt) (rI0 fun i j => .bl (decide (j < i))) aGt := ⟨op_gt, k_i20 fun _ _ _ => .bl _⟩
abbrev aGe : O2 := aI20 fun i j => .bl (decide (j ≤ i))
theorem o_ge : OpA X (compareOp .GtE) (rI0 fun i j => .bl (decide (j ≤ i))) aGe := ⟨op_ge, k_i20 fun _ _ _ => .bl _⟩
def aNeg : O1 := fun d S Q => onI (fun i S => Q (.int (-i)) S) d S
theorem u_neg : UnA X (unaryOp .USub) (rU fun i => .int (-i)) aNeg := by
  refine ⟨un_neg, fun x d H F S R Q P T dx q po => ?_⟩
  cases dx with
  | int i => exact ⟨i, rfl, po _ H F S _ (Same.refl _) T (.int _) q⟩
  | _ => exact (show False from q).elim
/-- the left or the right factor is below 2 ^ 64 -/
abbrev aMul : O2 := aI2 CMul fun i j => .int (i * j)
theorem o_mul : OpA X (binaryOp .Mult) (rI CMul fun i j => .int (i * j)) aMul := ⟨op_mul, k_i2 fun _ _ _ => .int _⟩
/-- a + b -/
def aAdd : D → D → Sto → KD → Prop
  | .int i, .int j, S, Q => Q (.int (i + j)) S
  | .str x, .str y, S, Q => x.length + y.length ≤ sizeLine ∧ Q (.str (x ++ y)) S
  | d, e, S, Q => ∃ xs ys, asL S d = some xs ∧ asL S e = some ys ∧ xs.length + ys.length ≤ sizeLine ∧ NewL (xs ++ ys) S Q
def rAddS : R2 := fun x y H Q => ∃ i j, x = .str i ∧ y = .str j ∧ i.length + j.length ≤ sizeLine ∧ Q (.str (i ++ j)) H
theorem o_add : OpA X (binaryOp .Add) (fun x y H Q => rI0 (fun i j => .int (i + j)) x y H Q ∨ rAddS x y H Q ∨ rCat x y H Q) aAdd := by
  refine ⟨op_add.or (op_add_str.or op_cat), fun x y d e H F S R Q P T dx dy q po => ?_⟩
  have lists : (∃ xs ys, asL S d = some xs ∧ asL S e = some ys ∧ xs.length + ys.length ≤ sizeLine ∧ NewL (xs ++ ys) S Q) → rCat x y H P := by
    rintro ⟨xs, ys, h1, h2, hz, q⟩
    obtain ⟨a, vs, rfl, ha, hv, _⟩ := asL_ok T dx h1
    obtain ⟨b, ws, rfl, hb, hw, _⟩ := asL_ok T dy h2
    exact ⟨a, b, vs, ws, rfl, rfl, ha, hb, by rw [hv.len, hw.len]; exact hz, newL_ok T (hv.append hw) (by rw [List.length_append]; exact hz) q po⟩
  cases dx with
  | int i =>
    cases dy with
    | int j => exact .inl ⟨i, j, rfl, rfl, po _ H F S _ (Same.refl _) T (.int _) q⟩
    | _ => exact .inr (.inr (lists q))
  | str i =>
    cases dy with
    | str j => exact .inr (.inl ⟨i, j, rfl, rfl, q.1, po _ H F S _ (Same.refl _) T (.str _) q.2⟩)
    | _ => exact .inr (.inr (lists q))
  | _ => exact .inr (.inr (lists q))
/-- x is None, x is True .. -/
def aIs (neg : Bool) : D → D → Sto → KD → Prop
  | .bl a, .bl b, S, Q => Q (.bl (if neg then !decide (a = b) else decide (a = b))) S
  | .non, .non, S, Q => Q (.bl (!neg)) S
  | .int _, .non, S, Q | .str _, .non, S, Q | .lst _, .non, S, Q | .tup _, .non, S, Q | .own _, .non, S, Q | .bl _, .non, S, Q => Q (.bl neg) S
  | _, _, _, _ => False
theorem o_is : OpA X (compareOp .Is) (fun x y H Q => (y = .non ∧ Q (.bl (decide (x = .non))) H) ∨ rIsB x y H Q) (aIs false) := by
  refine ⟨op_isN.or op_isBl, fun x y d e H F S R Q P T dx dy q po => ?_⟩
  cases dx <;> cases dy <;> first
    | exact (show False from q).elim
    | exact .inr ⟨_, _, rfl, rfl, po _ H F S _ (Same.refl _) T (.bl _) q⟩
    | exact .inl ⟨rfl, po _ H F S _ (Same.refl _) T (.bl _) (by simpa [aIs] using q)⟩
theorem o_isnot : OpA X (compareOp .IsNot) (fun x y H Q => (y = .non ∧ Q (.bl (!decide (x = .non))) H) ∨ rNotB x y H Q) (aIs true) := by
  refine ⟨op_notN.or op_notBl, fun x y d e H F S R Q P T dx dy q po => ?_⟩
  cases dx <;> cases dy <;> first
    | exact (show False from q).elim
    | exact .inr ⟨_, _, rfl, rfl, po _ H F S _ (Same.refl _) T (.bl _) q⟩
    | exact .inl ⟨rfl, po _ H F S _ (Same.refl _) T (.bl _) (by simpa [aIs] using q)⟩
/-- x in xs -/
def aIn (neg : Bool) : O2 := fun d e S Q => ∃ n p ps, n ≤ 60 ∧ rd S n d = some p ∧ rd S n e = some (.list ps) ∧
  Q (.bl (if neg then !ps.any fun z => PyData.eqv z p else ps.any fun z => PyData.eqv z p)) S
theorem o_in (hr : ∃ k, RoomG k X.A) : OpA X (compareOp .In) (rInD X.K) (aIn false) := by
  obtain ⟨k, hr⟩ := hr
  refine ⟨op_inD (by have := hr.room.un; omega), fun x y d e H F S R Q P T dx dy q po => ?_⟩
  obtain ⟨n, p, ps, hn, h1, h2, q⟩ := q
  exact ⟨p, ps, rd_dp T n d x p dx h1, rd_dp T n e y _ dy h2, rd_shaped h1 hn, rd_shaped h2 hn, po _ H F S _ (Same.refl _) T (.bl _) q⟩
theorem o_notin (hr : ∃ k, RoomG k X.A) : OpA X (compareOp .NotIn) (rNotInD X.K) (aIn true) := by
  obtain ⟨k, hr⟩ := hr
  refine ⟨op_notInD (by have := hr.room.un; omega), fun x y d e H F S R Q P T dx dy q po => ?_⟩
  obtain ⟨n, p, ps, hn, h1, h2, q⟩ := q
  exact ⟨p, ps, rd_dp T n d x p dx h1, rd_dp T n e y _ dy h2, rd_shaped h1 hn, rd_shaped h2 hn, po _ H F S _ (Same.refl _) T (.bl _) q⟩
end
end A

/-! ## places, slices, stores, the built-in functions and the methods of lists -/
namespace A
open PySem PySem.Spec L2 PyProof.Rows

section
variable {K : KW} {F H : Hp} {S R : Sto}
theorem DvL.atI {vs : List V} {ds : List D} {i : Int} {d : D} (h : DvL K F vs ds) (e : atI ds i = some d) : ∃ v, L2.atI vs i = some v ∧ Dv K F v d := by
  unfold L2.atI at e ⊢
  rw [h.len]
  cases q : ixN ds.length i with
  | none => rw [q] at e; cases e
  | some j => rw [q] at e; exact h.getD e
/-- the value at a place -/
def aIx : D → D → Sto → KD → Prop
  | .lst l, .int i, S, Q => ∃ x, atI l i = some x ∧ Q x S
  | .tup l, .int i, S, Q => ∃ x, atI l i = some x ∧ Q x S
  | .scr l, .int i, S, Q => ∃ x, atI l i = some x ∧ Q (.int x) S
  | .str z, .int i, S, Q => z.length ≤ sizeLine ∧ ∃ c, atI z.cps.toList i = some c ∧ Q (.str ⟨#[c]⟩) S
  | .own a, .int i, S, Q => match S a with
    | some (.lst l) => ∃ x, atI l i = some x ∧ Q x S
    | some .pot => ∀ x y, PotOk x y → ∃ z, atI [x, y] i = some z ∧ Q (.int z) S
    | _ => False
  | _, _, _, _ => False
theorem ix_ok : R2k K (rIx K.K) aIx := by
  intro x y d e H F S R Q P T dx dy q po
  cases dy with
  | int i =>
    cases dx with
    | lst h z l =>
      obtain ⟨w, h1, h2⟩ := q
      obtain ⟨v, h3, h4⟩ := l.atI h1
      exact .inl ⟨_, _, i, v, rfl, rfl, SqL.of (T.le _ _ h), h3, po v H F S w (Same.refl _) T h4 h2⟩
    | tup h z l =>
      obtain ⟨w, h1, h2⟩ := q
      obtain ⟨v, h3, h4⟩ := l.atI h1
      exact .inr (.inl ⟨_, _, i, v, rfl, rfl, SqT.same T.le h, h3, po v H F S w (Same.refl _) T h4 h2⟩)
    | scr h z =>
      obtain ⟨w, h1, h2⟩ := q
      refine .inl ⟨_, _, i, .int w, rfl, rfl, T.le.seq h, ?_, po (.int w) H F S (.int w) (Same.refl _) T (.int w) h2⟩
      unfold L2.atI at h1 ⊢
      rw [List.length_map]
      cases e : ixN _ i with
      | none => rw [e] at h1; cases h1
      | some j =>
        rw [e] at h1
        show (List.map V.int _)[j]? = some (V.int w)
        rw [List.getElem?_map]
        exact congrArg (Option.map V.int) h1
    | str z =>
      obtain ⟨h0, c, h1, h2⟩ := q
      exact .inr (.inr ⟨z, i, c, rfl, rfl, h0, h1, po _ H F S _ (Same.refl _) T (.str _) h2⟩)
    | own a =>
      have q2 : (match S a with
        | some (.lst l) => ∃ x, atI l i = some x ∧ Q x S
        | some .pot => ∀ x y, PotOk x y → ∃ z, atI [x, y] i = some z ∧ Q (.int z) S
        | _ => False) := q
      split at q2
      · rename_i l hS
        obtain ⟨w, h1, h2⟩ := q2
        obtain ⟨_, z, xs, h3, h4⟩ := T.own _ _ hS
        obtain ⟨v, h5, h6⟩ := h4.atI h1
        exact .inl ⟨_, _, i, v, rfl, rfl, SqL.of h3, h5, po v H F S w (Same.refl _) T h6 h2⟩
      · rename_i hS
        obtain ⟨_, x, y, h3, h4⟩ := T.own _ _ hS
        obtain ⟨w, h1, h2⟩ := q2 x y h4
        refine .inl ⟨_, _, i, .int w, rfl, rfl, SqL.of h3, ?_, po (.int w) H F S (.int w) (Same.refl _) T (.int w) h2⟩
        unfold L2.atI at h1 ⊢
        cases e : ixN [x, y].length i with
        | none => rw [e] at h1; cases h1
        | some j =>
          rw [e] at h1
          have : ([x, y].map V.int)[j]? = some (V.int w) := by
            rw [List.getElem?_map]
            exact congrArg (Option.map V.int) h1
          exact this
      · exact (show False from q2).elim
    | _ => exact (show False from q).elim
  | _ => cases d <;> exact (show False from q).elim
/-- o[i] = v -/
def aPut : D → D → D → Sto → (Sto → Prop) → Prop
  | .own a, .int k, v, S, Q => match S a with
    | some (.lst l) => ∃ j, ixN l.length k = some j ∧ Q (put S a (.lst (l.set j v)))
    | some .pot => ∃ n, v = .int n ∧ ((k = 0 ∧ 0 ≤ n ∧ n.natAbs.log2 < 2 ^ 20 + 64) ∨ (k = 1 ∧ 0 ≤ n ∧ n < 2147483648)) ∧ Q S
    | _ => False
  | _, _, _, _, _ => False
theorem put_ok {x y z : V} {o i v : D} {Q : Sto → Prop} {P : Hp → Prop} (T : Sta K F S R H) (dx : Dv K F x o) (dy : Dv K F y i) (dz : Dv K F z v) (q : aPut o i v S Q)
    (po : ∀ H' S', Sta K F S' R H' → Q S' → P H') : rSetL x y z H P := by
  cases dx with
  | own a =>
    cases dy with
    | int k =>
      have q2 : (match S a with
        | some (.lst l) => ∃ j, ixN l.length k = some j ∧ Q (put S a (.lst (l.set j v)))
        | some .pot => ∃ n, v = .int n ∧ ((k = 0 ∧ 0 ≤ n ∧ n.natAbs.log2 < 2 ^ 20 + 64) ∨ (k = 1 ∧ 0 ≤ n ∧ n < 2147483648)) ∧ Q S
        | _ => False) := q
      split at q2
      · rename_i l hS
        obtain ⟨j, h1, h2⟩ := q2
        obtain ⟨hF, zl, xs, h3, h4⟩ := T.own _ _ hS
        refine ⟨a, xs, k, j, rfl, rfl, h3, by rw [h4.len]; exact h1, po _ _ (T.write (c' := .lst (l.set j v)) hS ⟨by rw [List.length_set]; exact zl, _, upd_same, h4.set j dz⟩) h2⟩
      · rename_i hS
        obtain ⟨n, rfl, h1, h2⟩ := q2
        cases dz
        obtain ⟨hF, x, y, h3, h4⟩ := T.own _ _ hS
        have fin : ∀ j x' y', [V.int x, V.int y].set j (V.int n) = [V.int x', V.int y'] → PotOk x' y' → P (upd H a (.lst ([V.int x, V.int y].set j (V.int n)))) := fun j x' y' e p => by
          have T2 := T.write (a := a) (o := .lst [V.int x', V.int y']) (c' := .pot) hS ⟨x', y', upd_same, p⟩
          rw [put_id hS] at T2
          rw [e]
          exact po _ _ T2 h2
        rcases h1 with ⟨rfl, g1, g2⟩ | ⟨rfl, g1, g2⟩
        · exact ⟨a, _, 0, 0, rfl, rfl, h3, rfl, fin 0 n y rfl ⟨g1, g2, h4.2.2⟩⟩
        · exact ⟨a, _, 1, 1, rfl, rfl, h3, rfl, fin 1 x n rfl ⟨h4.1, h4.2.1, g1, g2⟩⟩
      · exact (show False from q2).elim
    | _ => exact (show False from q).elim
  | _ => exact (show False from q).elim
end
section
variable {X : Cx} {W : WX} {a b e o i : Expr} {ta tb te to ti : TE} {aa ab ae ao ai : AE} {pos p : Pos}
theorem plainIx_of (h : ∀ o i, subscripted b false o i = operate [o, i] (getItem o i)) : PlainIx b := h
theorem ea_ix (ha : EA X W a ta aa) (hb : EA X W b tb ab) (hs : PlainIx b := by intro _ _; rfl) : EA X W (.Subscript a b pos) (tOp (rIx X.K) ta tb) (aOp aIx aa ab) := ⟨pe_ix ix_seq ha.pe hb.pe hs, re_op ix_ok ha.re hb.re⟩
def agSub (ao ai : AE) : AG := fun v ρ S Q E => ao ρ S (fun o S1 => ai ρ S1 (fun i S2 => aPut o i v S2 fun S3 => Q ρ S3) E) E
theorem g_sub (ho : EA X W o to ao) (hi : EA X W i ti ai)
    (hx : ∀ v, assign (.Subscript o i pos) X.env v = (do
      let ov ← holding [v] (eval o X.env)
      let iv ← holding [v, ov] (eval i X.env)
      standAt pos
      holding [v, ov, iv] (setItem ov iv v)
      release [v, ov, iv] []) := by intro _; rfl) : GA X W (.Subscript o i pos) (gSub to ti rSetL) (agSub ao ai) := by
  refine ⟨pg_sub ho.pe hi.pe set_list hx, fun v d σ H F S R ρ Q E P T en wo dv q po => ho.re σ H F S R ρ _ E _ T en wo q fun x H1 F1 S1 d1 e1 T1 dx q1 => ?_⟩
  refine hi.re σ H1 F1 S1 R ρ _ E _ T1 (en.mono e1) (wo.mono e1) q1 fun y H2 F2 S2 d2 e2 T2 dy q2 => ?_
  exact put_ok T2 (dx.mono e2) dy (dv.mono (e1.trans e2)) q2 fun H' S' T3 q3 => po σ H' F2 S' ρ (e1.trans e2) T3 (en.mono (e1.trans e2)) q3
/-! ### slices -/
abbrev AO := En → Sto → (Option Int → Sto → Prop) → KX → Prop
structure OA (X : Cx) (W : WX) (e : Option Expr) (t : TO) (a : AO) : Prop where
  po : PO X e t
  ro : ∀ σ H F S R ρ Q E (P : Option Int → Hp → Prop), Sta X.kw F S R H → EnR X.kw F σ ρ → WOk X.kw F R σ W E → a ρ S Q E → (∀ v H' F' S', Same F F' → Sta X.kw F' S' R H' → Q v S' → P v H') → t σ H P
def aoN : AO := fun _ S Q _ => Q none S
def aoS (a : AE) : AO := fun ρ S Q E => a ρ S (onI fun i S1 => Q (some i) S1) E
theorem o_none : OA X W none tNoPart aoN := ⟨po_none, fun σ H F S R ρ Q E P T en wo q po => po none H F S (Same.refl _) T q⟩
theorem o_some (h : EA X W e te ae) : OA X W (some e) (tPart te) (aoS ae) := ⟨po_some h.pe, fun σ H F S R ρ Q E P T en wo q po => h.re σ H F S R ρ _ E _ T en wo q fun v H1 F1 S1 d e1 T1 dv q1 => by
  cases dv with
  | int i => exact ⟨i, rfl, po (some i) H1 F1 S1 e1 T1 q1⟩
  | _ => exact (show False from q1).elim⟩
def cutD (xs : List D) (lo hi : Option Int) : List D := (xs.drop (HT.sIx xs.length 0 lo)).take (HT.sIx xs.length xs.length hi - HT.sIx xs.length 0 lo)
def aSl (ae : AE) (al ah : AO) : AE := fun ρ S Q E => ae ρ S (fun d S1 => al ρ S1 (fun l S2 => ah ρ S2 (fun u S3 => ∃ ds, asL S3 d = some ds ∧ NewL (cutD ds l u) S3 Q) E) E) E
theorem ea_slice {lo hi : Option Expr} {tl th : TO} {al ah : AO} {p2 : Pos} (he : EA X W e te ae) (hl : OA X W lo tl al) (hh : OA X W hi th ah) : EA X W (.Subscript e (.Slice lo hi none p2) pos) (tSl (rSlL X.K) te tl th) (aSl ae al ah) := by
  refine ⟨pe_slice sl_list he.pe hl.po hh.po, fun σ H F S R ρ Q E P T en wo q po => he.re σ H F S R ρ _ E _ T en wo q fun v H1 F1 S1 d e1 T1 dv q1 => ?_⟩
  refine hl.ro σ H1 F1 S1 R ρ _ E _ T1 (en.mono e1) (wo.mono e1) q1 fun l H2 F2 S2 e2 T2 q2 => ?_
  refine hh.ro σ H2 F2 S2 R ρ _ E _ T2 (en.mono (e1.trans e2)) (wo.mono (e1.trans e2)) q2 fun u H3 F3 S3 e3 T3 q3 => ?_
  obtain ⟨ds, h1, h2⟩ := q3
  obtain ⟨a, xs, rfl, h3, h4, hz⟩ := asL_ok T3 (dv.mono (e2.trans e3)) h1
  refine ⟨a, xs, rfl, SqL.of h3, ?_⟩
  have e4 : DvL X.kw F3 (cutV xs l u) (cutD ds l u) := by
    unfold cutV cutD
    rw [h4.len]
    exact (h4.drop _).take _
  exact newL_ok T3 e4 (by have := cutV_length xs l u; rw [← e4.len]; have := h4.len; omega) h2 (po.mono ((e1.trans e2).trans e3))
def aRev (ae : AE) : AE := fun ρ S Q E => ae ρ S (fun d S1 => ∃ ds, asL S1 d = some ds ∧ NewL ds.reverse S1 Q) E
theorem ea_revL {k : Nat} {p1 p2 p3 : Pos} (he : EA X W e te ae) : EA X W (.Subscript e (.Slice none none (some (.UnaryOp .USub (.Constant (.int 1) k p1) p2)) p3) pos) (tRevL X.K te) (aRev ae) := by
  refine ⟨pe_revL he.pe, fun σ H F S R ρ Q E P T en wo q po => he.re σ H F S R ρ _ E _ T en wo q fun v H1 F1 S1 d e1 T1 dv q1 => ?_⟩
  obtain ⟨ds, h1, h2⟩ := q1
  obtain ⟨a, xs, rfl, h3, h4, hz⟩ := asL_ok T1 dv h1
  exact ⟨a, xs, rfl, SqL.of h3, newL_ok T1 h4.reverse (by rw [List.length_reverse]; exact hz) h2 (po.mono e1)⟩

/-! ### built-in functions -/
def lenD (S : Sto) (d : D) : Option Nat := match d with
  | .lst l => some l.length
  | .tup l => some l.length
  | .scr l => some l.length
  | .str z => if z.length ≤ sizeLine then some z.length else none
  | .own a => match S a with | some (.lst l) => some l.length | _ => none
  | _ => none
def aLen : ON := fun ds S Q => ∃ d n, ds = [d] ∧ lenD S d = some n ∧ Q (.int n) S
theorem c_len : CallA X (.builtin "len") (fun xs H Q => ∃ x n, xs = [x] ∧ LenV X.K x H n ∧ Q (.int n) H) aLen := by
  refine ⟨call_len, ?_⟩
  rintro xs ds H F S R Q P T dvs ⟨d, n, rfl, hn, q⟩ po
  cases dvs with
  | cons h t =>
    cases t
    refine ⟨_, n, rfl, ?_, po _ H F S _ (Same.refl _) T (.int _) q⟩
    cases h with
    | lst h z l => cases hn; exact .inl ⟨_, SqL.of (T.le _ _ h), l.len.symm⟩
    | tup h z l => cases hn; exact .inr ⟨_, SqT.same T.le h, l.len.symm⟩
    | scr h z => cases hn; exact .inl ⟨_, T.le.seq h, by rw [List.length_map]⟩
    | str z =>
      have hn' : (if z.length ≤ sizeLine then some z.length else none) = some n := hn
      by_cases g : z.length ≤ sizeLine
      · rw [if_pos g] at hn'; cases hn'; exact ⟨g, rfl⟩
      · rw [if_neg g] at hn'; cases hn'
    | own a =>
      have hn' : (match S a with | some (.lst l) => some l.length | _ => none) = some n := hn
      split at hn'
      · rename_i l hS
        cases hn'
        obtain ⟨_, z, xs, h3, h4⟩ := T.own _ _ hS
        exact .inl ⟨xs, SqL.of h3, h4.len.symm⟩
      · cases hn'
    | _ => cases hn
/-- the items of a list, a tuple or the script, as data -/
def itD (S : Sto) (d : D) : Option (List D) := match d with
  | .scr l => some (l.map .int)
  | .tup l => some l
  | d => asL S d
theorem itD_ok {K : KW} {F H : Hp} {S R : Sto} {v : V} {d : D} {ds : List D} (T : Sta K F S R H) (h : Dv K F v d) (q : itD S d = some ds) : ∃ a xs, v = .ref a ∧ (SqL K.K H a xs ∨ SqT K.K H a xs) ∧ DvL K F xs ds ∧ ds.length ≤ sizeLine := by
  cases d with
  | scr l =>
    cases q
    cases h with
    | scr h z => exact ⟨_, _, rfl, .inl (T.le.seq h), DvL.ints l, by rw [List.length_map]; exact z⟩
  | tup l =>
    cases q
    cases h with
    | tup h z l => exact ⟨_, _, rfl, .inr (SqT.same T.le h), l, z⟩
  | _ =>
    obtain ⟨a, xs, h1, h2, h3, h4⟩ := asL_ok T h q
    exact ⟨a, xs, h1, .inl (SqL.of h2), h3, h4⟩
def aList : ON := fun ds S Q => ∃ d l, ds = [d] ∧ itD S d = some l ∧ NewL l S Q
theorem c_list : CallA X (.type "list") (fun xs H Q => ∃ p ys, xs = [.ref p] ∧ (SqL X.K H p ys ∨ SqT X.K H p ys) ∧ ∀ l, H l = none → Q (.ref l) (upd H l (.lst ys))) aList := by
  refine ⟨call_list_of, ?_⟩
  rintro xs ds H F S R Q P T dvs ⟨d, n, rfl, hn, q⟩ po
  cases dvs with
  | cons h t =>
    cases t
    obtain ⟨a, ys, rfl, h1, h2, h3⟩ := itD_ok T h hn
    exact ⟨a, ys, rfl, h1, newL_ok T h2 h3 q po⟩
/-- tuple(x) of a list -/
def aTupOf : ON := fun ds S Q => ∃ d l, ds = [d] ∧ itD S d = some l ∧ Q (.tup l) S
theorem c_tuple : CallA X (.type "tuple") (fun xs H Q => ∃ p ys, xs = [.ref p] ∧ ((SqL X.K H p ys ∧ ∀ l, H l = none → Q (.ref l) (upd H l (.tup ys))) ∨ (SqT X.K H p ys ∧ Q (.ref p) H))) aTupOf := by
  refine ⟨call_tuple_of, ?_⟩
  rintro xs ds H F S R Q P T dvs ⟨d, n, rfl, hn, q⟩ po
  cases dvs with
  | cons h t =>
    cases t
    cases d with
    | tup l =>
      cases hn
      cases h with
      | tup h z l => exact ⟨_, _, rfl, .inr ⟨SqT.same T.le h, po _ H F S _ (Same.refl _) T (.tup h z l) q⟩⟩
    | scr l =>
      cases hn
      cases h with
      | scr h z => exact ⟨_, _, rfl, .inl ⟨T.le.seq h, newT_ok T (DvL.ints l) (by rw [List.length_map]; exact z) q po⟩⟩
    | _ =>
      obtain ⟨b, zs, e, g2, g3, g4⟩ := asL_ok T h hn
      exact ⟨b, zs, by rw [e], .inl ⟨SqL.of g2, newT_ok T g3 g4 q po⟩⟩
/-- list(range(n)), list(range(a, b)) -/
def aLRg1 (aa : AE) : AE := fun ρ S Q E => aa ρ S (onI fun n S1 => RgOk 0 n ∧ NewL (rngD 0 n.toNat) S1 Q) E
def aLRg2 (aa ab : AE) : AE := fun ρ S Q E => aa ρ S (fun d S1 => ab ρ S1 (fun e S2 => onII (fun i j => RgOk i j ∧ NewL (rngD i (j - i).toNat) S2 Q) d e) E) E
theorem dvl_rg {K : KW} {F : Hp} {i j : Int} : DvL K F (rgV i j) (rngD i (j - i).toNat) := by
  unfold rgV rngD
  generalize (List.range (j - i).toNat) = l
  induction l with
  | nil => exact .nil
  | cons n r ih => exact .cons (.int _) ih
theorem rngD_length {i : Int} {n : Nat} : (rngD i n).length = n := by unfold rngD; simp
theorem ea_listRg1 {p1 p2 : Pos} (hc : X.calm = true) (hm : X.mg "list" = none) (hm2 : X.mg "range" = none) (ha : EA X W a ta aa) (hg : Gl X "list" := by rfl) (hg2 : Gl X "range" := by rfl)
    (na : starEach [a] X.env = (false, eval a X.env) :: starEach [] X.env := by rfl) (nb : starEach [.Call (.Name "range" p2) [a] [] p1] X.env = (false, eval (.Call (.Name "range" p2) [a] [] p1) X.env) :: starEach [] X.env := by rfl) :
    EA X W (.Call (.Name "list" p) [.Call (.Name "range" p2) [a] [] p1] [] pos) (tLstRg (tRg1 ta)) (aLRg1 aa) := by
  refine ⟨pe_listRg hc hg hm (prg_1 hg2 hm2 ha.pe na) nb, fun σ H F S R ρ Q E P T en wo q po => ha.re σ H F S R ρ _ E _ T en wo q fun v H1 F1 S1 d e1 T1 dv q1 => ?_⟩
  cases dv with
  | int n =>
    have e : (n - 0).toNat = n.toNat := by congr 1; omega
    refine ⟨n, rfl, q1.1, newL_ok T1 (by have := dvl_rg (K := X.kw) (F := F1) (i := 0) (j := n); rw [e] at this; exact this) ?_ q1.2 (po.mono e1)⟩
    rw [rngD_length, sizeLine_eq]
    have := q1.1.2.2.2.2
    omega
  | _ => exact (show False from q1).elim
theorem ea_listRg2 {p1 p2 : Pos} (hc : X.calm = true) (hm : X.mg "list" = none) (hm2 : X.mg "range" = none) (ha : EA X W a ta aa) (hb : EA X W b tb ab) (hg : Gl X "list" := by rfl) (hg2 : Gl X "range" := by rfl)
    (na : starEach [a, b] X.env = (false, eval a X.env) :: starEach [b] X.env := by rfl) (na2 : starEach [b] X.env = (false, eval b X.env) :: starEach [] X.env := by rfl) (hp : (backTo p1 (starEach [b] X.env)).any (·.1) = false := by rfl)
    (nb : starEach [.Call (.Name "range" p2) [a, b] [] p1] X.env = (false, eval (.Call (.Name "range" p2) [a, b] [] p1) X.env) :: starEach [] X.env := by rfl) :
    EA X W (.Call (.Name "list" p) [.Call (.Name "range" p2) [a, b] [] p1] [] pos) (tLstRg (tRg2 ta tb)) (aLRg2 aa ab) := by
  refine ⟨pe_listRg hc hg hm (prg_2 hg2 hm2 ha.pe hb.pe na na2 hp) nb, fun σ H F S R ρ Q E P T en wo q po => ha.re σ H F S R ρ _ E _ T en wo q fun v H1 F1 S1 d e1 T1 dv q1 => ?_⟩
  refine hb.re σ H1 F1 S1 R ρ _ E _ T1 (en.mono e1) (wo.mono e1) q1 fun u H2 F2 S2 e e2 T2 dv2 q2 => ?_
  cases dv with
  | int i =>
    cases dv2 with
    | int j =>
      refine ⟨i, j, rfl, rfl, q2.1, newL_ok T2 dvl_rg ?_ q2.2 (po.mono (e1.trans e2))⟩
      rw [rngD_length, sizeLine_eq]
      have := q2.1.2.2.2.2
      omega
    | _ => exact (show False from q2).elim
  | _ => exact (show False from q2).elim
def aAbs : ON := fun ds S Q => onL1 (fun i => Q (.int (if i < 0 then -i else i)) S) ds
theorem c_abs : CallA X (.builtin "abs") (fun xs H Q => ∃ i, xs = [.int i] ∧ Q (.int (if i < 0 then -i else i)) H) aAbs := by
  refine ⟨call_abs, fun xs ds H F S R Q P T dvs q po => ?_⟩
  unfold aAbs onL1 at q
  split at q
  · cases dvs with
    | cons h t => cases t; cases h; exact ⟨_, rfl, po _ H F S _ (Same.refl _) T (.int _) q⟩
  · exact (show False from q).elim
def aI2N (C : Int → Int → Prop) (g : Int → Int → D) : ON := fun ds S Q => onL2 (fun i j => C i j ∧ Q (g i j) S) ds
theorem i2N_ok {K : KW} {F : Hp} {xs : List V} {ds : List D} {S : Sto} {C : Int → Int → Prop} {g : Int → Int → D} {Q : KD} (dvs : DvL K F xs ds) (q : aI2N C g ds S Q) : ∃ i j, xs = [.int i, .int j] ∧ C i j ∧ Q (g i j) S := by
  unfold aI2N onL2 at q
  split at q
  · cases dvs with
    | cons h t => cases t with
      | cons h2 t2 => cases t2; cases h; cases h2; exact ⟨_, _, rfl, q⟩
  · exact (show False from q).elim
def aMax : ON := aI2N (fun _ _ => True) fun i j => .int (if j > i then j else i)
def aMin : ON := aI2N (fun _ _ => True) fun i j => .int (if j < i then j else i)
theorem c_max2 (hc : X.calm = true) : CallA X (.builtin "max") (fun xs H Q => ∃ i j, xs = [.int i, .int j] ∧ Q (.int (if j > i then j else i)) H) aMax := by
  refine ⟨call_max2 hc, fun xs ds H F S R Q P T dvs q po => ?_⟩
  obtain ⟨i, j, rfl, _, q⟩ := i2N_ok dvs q
  exact ⟨i, j, rfl, po _ H F S _ (Same.refl _) T (.int _) q⟩
theorem c_min2 (hc : X.calm = true) : CallA X (.builtin "min") (fun xs H Q => ∃ i j, xs = [.int i, .int j] ∧ Q (.int (if j < i then j else i)) H) aMin := by
  refine ⟨call_min2 hc, fun xs ds H F S R Q P T dvs q po => ?_⟩
  obtain ⟨i, j, rfl, _, q⟩ := i2N_ok dvs q
  exact ⟨i, j, rfl, po _ H F S _ (Same.refl _) T (.int _) q⟩
def aDm : ON := aI2N CDivP fun i j => .tup [.int (i / j), .int (i % j)]
theorem c_divmod : CallA X (.builtin "divmod") (fun xs H Q => ∃ i j, xs = [.int i, .int j] ∧ CDivP i j ∧ ∀ p, H p = none → Q (.ref p) (upd H p (.tup [.int (i / j), .int (i % j)]))) aDm := by
  refine ⟨call_divmodW, fun xs ds H F S R Q P T dvs q po => ?_⟩
  obtain ⟨i, j, rfl, hc, q⟩ := i2N_ok dvs q
  exact ⟨i, j, rfl, hc, newT_ok T (.cons (.int _) (.cons (.int _) .nil)) (by rw [sizeLine_eq]; simp) q po⟩
def blsOf : List D → Option (List Bool)
  | [] => some []
  | .bl b :: r => (blsOf r).map (b :: ·)
  | _ :: _ => none
theorem blsOf_map : ∀ bs : List Bool, blsOf (bs.map D.bl) = some bs
  | [] => rfl
  | b :: r => by show (blsOf (r.map D.bl)).map (b :: ·) = _; rw [blsOf_map r]; rfl
theorem blsOf_ok : ∀ {ds : List D} {bs : List Bool}, blsOf ds = some bs → ds = bs.map D.bl
  | [], _, h => by cases h; rfl
  | .bl b :: r, bs, h => by
    have h' : (blsOf r).map (b :: ·) = some bs := h
    obtain ⟨q, e1, e2⟩ := Option.map_eq_some_iff.mp h'
    subst e2
    rw [blsOf_ok e1]
    rfl
  | .non :: _, _, h => by cases h
  | .int _ :: _, _, h => by cases h
  | .str _ :: _, _, h => by cases h
  | .ty _ :: _, _, h => by cases h
  | .lst _ :: _, _, h => by cases h
  | .tup _ :: _, _, h => by cases h
  | .set _ :: _, _, h => by cases h
  | .own _ :: _, _, h => by cases h
  | .scr _ :: _, _, h => by cases h
def aAll : ON := fun ds S Q => ∃ d l bs, ds = [d] ∧ asL S d = some l ∧ blsOf l = some bs ∧ Q (.bl (bs.all id)) S
def aAny : ON := fun ds S Q => ∃ d l bs, ds = [d] ∧ asL S d = some l ∧ blsOf l = some bs ∧ Q (.bl (bs.any id)) S
theorem c_all (hc : X.calm = true) : CallA X (.builtin "all") (rAll X.K) aAll := by
  refine ⟨cr_all hc, ?_⟩
  rintro xs ds H F S R Q P T dvs ⟨d, l, bs, rfl, h1, h2, q⟩ po
  cases dvs with
  | cons h t =>
    cases t
    obtain ⟨a, ys, rfl, h3, h4, _⟩ := asL_ok T h h1
    rw [blsOf_ok h2] at h4
    exact ⟨a, bs, rfl, by rw [← h4.toBls]; exact SqL.of h3, po _ H F S _ (Same.refl _) T (.bl _) q⟩
theorem c_any (hc : X.calm = true) : CallA X (.builtin "any") (rAny X.K) aAny := by
  refine ⟨cr_any hc, ?_⟩
  rintro xs ds H F S R Q P T dvs ⟨d, l, bs, rfl, h1, h2, q⟩ po
  cases dvs with
  | cons h t =>
    cases t
    obtain ⟨a, ys, rfl, h3, h4, _⟩ := asL_ok T h h1
    rw [blsOf_ok h2] at h4
    exact ⟨a, bs, rfl, by rw [← h4.toBls]; exact SqL.of h3, po _ H F S _ (Same.refl _) T (.bl _) q⟩
end
end A

/-! ## methods of lists, isinstance, repr, len of an instance, C.m(..) -/
namespace A
open PySem PySem.Spec L2 PyProof.Rows ClX

section
variable {X : Cx} {W : WX} {e o : Expr} {es : List Expr} {to : TE} {ao : AE} {t : TA} {ar : AA} {apos pos p : Pos}
/-! ### methods of lists -/
abbrev OM := D → List D → Sto → KD → Prop
structure MthA (X : Cx) (id : String) (r : V → List V → Hp → VK → Prop) (a : OM) : Prop where
  m : MtR X id r
  k : ∀ x xs d ds H F S R Q P, Sta X.kw F S R H → Dv X.kw F x d → DvL X.kw F xs ds → a d ds S Q → Post X.kw F R Q P → r x xs H P
def aBM (a : OM) (ao : AE) (ar : AA) : AE := fun ρ S Q E => ao ρ S (fun d S1 => (∃ l, asL S1 d = some l) ∧ ar ρ S1 (fun ds S2 => a d ds S2 Q) E) E
theorem tyL_ok {F H : Hp} {S R : Sto} {x : V} {d : D} (T : Sta X.kw F S R H) (dx : Dv X.kw F x d) (h : ∃ l, asL S d = some l) : tyV X.K "list" x H := by
  obtain ⟨l, h⟩ := h
  obtain ⟨a, xs, rfl, h1, _, _⟩ := asL_ok T dx h
  exact .inl ⟨rfl, xs, SqL.of h1⟩
theorem ea_bm {id : String} {name : Str} {r : V → List V → Hp → VK → Prop} {a : OM} (hm : MthA X id r a) (slot : Slot "list" name id) (hty : typeOf (.builtin id) = pure (.type "method_descriptor")) (ho : EA X W o to ao) (ha : ArA X W (e :: es) t ar)
    (hbase : attributeBase o name X.env (eval o X.env) = eval o X.env := by rfl)
    (hfew : ((backTo pos (starEach (e :: es) X.env)).all (fun x => !x.1) && (backToKw pos (keywordEach [] X.env)).all (fun x => x.1.isSome)
      && decide ((e :: es).length + ([] : List Keyword).length + (if ([] : List Keyword).isEmpty then 0 else 1) < 30)) = true := by rfl)
    (hline : (apos.endLine == pos.line) = true := by rfl) (hs : starEach (e :: es) X.env = (false, eval e X.env) :: starEach es X.env := by rfl) (hplain : (backTo pos (starEach es X.env)).any (·.1) = false := by rfl) :
    EA X W (.Call (.Attribute o name apos) (e :: es) [] pos) (tBM X.K "list" r to t) (aBM a ao ar) := by
  refine ⟨pe_bm PySem.F.plainAttrs_list slot hty hm.m ho.pe ha.pa hbase hfew hline hs hplain, fun σ H F S R ρ Q E P T en wo q po => ho.re σ H F S R ρ _ E _ T en wo q fun v H1 F1 S1 d e1 T1 dv q1 => ?_⟩
  refine ⟨tyL_ok T1 dv q1.1, ha.ra σ H1 F1 S1 R ρ _ E _ T1 (en.mono e1) (wo.mono e1) q1.2 fun vs H2 F2 S2 ds e2 T2 dvs q2 => ?_⟩
  exact hm.k _ _ _ _ H2 F2 S2 R Q P T2 (dv.mono e2) dvs q2 (po.mono (e1.trans e2))
theorem ea_bm0 {id : String} {name : Str} {r : V → List V → Hp → VK → Prop} {a : OM} (hm : MthA X id r a) (slot : Slot "list" name id) (hty : typeOf (.builtin id) = pure (.type "method_descriptor")) (ho : EA X W o to ao)
    (hbase : attributeBase o name X.env (eval o X.env) = eval o X.env := by rfl) (hline : (apos.endLine == pos.line) = true := by rfl) :
    EA X W (.Call (.Attribute o name apos) [] [] pos) (tBM0 X.K "list" r to) (aBM a ao aNil) := by
  refine ⟨pe_bm0 PySem.F.plainAttrs_list slot hty hm.m ho.pe hbase hline, fun σ H F S R ρ Q E P T en wo q po => ho.re σ H F S R ρ _ E _ T en wo q fun v H1 F1 S1 d e1 T1 dv q1 => ?_⟩
  exact ⟨tyL_ok T1 dv q1.1, hm.k _ _ _ _ H1 F1 S1 R Q P T1 dv .nil q1.2 (po.mono e1)⟩
/-- one's own list -/
theorem own_ok {K : KW} {F H : Hp} {S R : Sto} {x : V} {a : Addr} {l : List D} (T : Sta K F S R H) (dx : Dv K F x (.own a)) (h : S a = some (.lst l)) : ∃ xs, x = .ref a ∧ H a = some (.lst xs) ∧ DvL K F xs l ∧ l.length ≤ sizeLine := by
  cases dx
  obtain ⟨_, z, xs, h1, h2⟩ := T.own _ _ h
  exact ⟨xs, rfl, h1, h2, z⟩
def aApp : OM := fun d ds S Q => ∃ a l x, d = .own a ∧ S a = some (.lst l) ∧ ds = [x] ∧ l.length < sizeLine ∧ Q .non (put S a (.lst (l ++ [x])))
theorem m_append : MthA X "list.append" rAppend aApp := by
  refine ⟨mt_append, ?_⟩
  rintro x xs d ds H F S R Q P T dx dvs ⟨a, l, y, rfl, h1, rfl, hz, q⟩ po
  obtain ⟨ys, rfl, h2, h3, _⟩ := own_ok T dx h1
  cases dvs with
  | cons h t =>
    cases t
    refine ⟨a, ys, _, rfl, rfl, h2, by rw [h3.len]; exact hz, po .non _ F _ .non (Same.refl _) (T.write (c' := .lst (l ++ [y])) h1 ⟨by simp; omega, _, upd_same, h3.append (.cons h .nil)⟩) .non q⟩
def aPopAt : OM := fun d ds S Q => ∃ a l i k y, d = .own a ∧ S a = some (.lst l) ∧ ds = [.int i] ∧ ixN l.length i = some k ∧ l[k]? = some y ∧ Q y (put S a (.lst (l.eraseIdx k)))
theorem m_popAt : MthA X "list.pop" rPopAt aPopAt := by
  refine ⟨mt_popAt, ?_⟩
  rintro x xs d ds H F S R Q P T dx dvs ⟨a, l, i, k, y, rfl, h1, rfl, hk, hy, q⟩ po
  obtain ⟨ys, rfl, h2, h3, hz⟩ := own_ok T dx h1
  cases dvs with
  | cons h t =>
    cases t
    cases h
    obtain ⟨v, h4, h5⟩ := h3.getD hy
    obtain ⟨g1, g2, g3, g4⟩ := ixN_seq hk
    have hs : sizeLine = 16777216 := sizeLine_eq
    exact ⟨a, ys, i, k, v, rfl, rfl, h2, by omega, by omega, by rw [h3.len]; exact g1, h4, po v _ F _ y (Same.refl _) (T.write (c' := .lst (l.eraseIdx k)) h1 ⟨by have := len_erase l k; omega, _, upd_same, h3.eraseIdx k⟩) h5 q⟩
def aPop : OM := fun d ds S Q => ∃ a l y, d = .own a ∧ S a = some (.lst l) ∧ ds = [] ∧ l[l.length - 1]? = some y ∧ Q y (put S a (.lst l.dropLast))
theorem DvL.dropLast {K : KW} {F : Hp} : ∀ {vs : List V} {ds : List D}, DvL K F vs ds → DvL K F vs.dropLast ds.dropLast := by
  intro vs ds h
  rw [List.dropLast_eq_take, List.dropLast_eq_take, h.len]
  exact h.take _
theorem m_pop : MthA X "list.pop" rPop aPop := by
  refine ⟨mt_pop, ?_⟩
  rintro x xs d ds H F S R Q P T dx dvs ⟨a, l, y, rfl, h1, rfl, hy, q⟩ po
  obtain ⟨ys, rfl, h2, h3, hz⟩ := own_ok T dx h1
  cases dvs
  obtain ⟨v, h4, h5⟩ := h3.getD hy
  exact ⟨a, ys, v, rfl, rfl, h2, by rw [h3.len]; exact h4, po v _ F _ y (Same.refl _) (T.write (c' := .lst l.dropLast) h1 ⟨by rw [List.length_dropLast]; omega, _, upd_same, h3.dropLast⟩) h5 q⟩
def aClear : OM := fun d ds S Q => ∃ a l, d = .own a ∧ S a = some (.lst l) ∧ ds = [] ∧ Q .non (put S a (.lst []))
theorem m_clear : MthA X "list.clear" rClear aClear := by
  refine ⟨mt_clear, ?_⟩
  rintro x xs d ds H F S R Q P T dx dvs ⟨a, l, rfl, h1, rfl, q⟩ po
  obtain ⟨ys, rfl, h2, h3, hz⟩ := own_ok T dx h1
  cases dvs
  exact ⟨a, ys, rfl, rfl, h2, po .non _ F _ .non (Same.refl _) (T.write (c' := .lst []) h1 ⟨Nat.zero_le _, _, upd_same, .nil⟩) .non q⟩
def aRevM : OM := fun d ds S Q => ∃ a l, d = .own a ∧ S a = some (.lst l) ∧ ds = [] ∧ Q .non (put S a (.lst l.reverse))
theorem m_reverse : MthA X "list.reverse" rReverse aRevM := by
  refine ⟨mt_reverse, ?_⟩
  rintro x xs d ds H F S R Q P T dx dvs ⟨a, l, rfl, h1, rfl, q⟩ po
  obtain ⟨ys, rfl, h2, h3, hz⟩ := own_ok T dx h1
  cases dvs
  exact ⟨a, ys, rfl, rfl, h2, po .non _ F _ .non (Same.refl _) (T.write (c' := .lst l.reverse) h1 ⟨by rw [List.length_reverse]; exact hz, _, upd_same, h3.reverse⟩) .non q⟩
def aExt : OM := fun d ds S Q => ∃ a l e m, d = .own a ∧ S a = some (.lst l) ∧ ds = [e] ∧ asL S e = some m ∧ l.length + m.length ≤ sizeLine ∧ Q .non (put S a (.lst (l ++ m)))
theorem m_extend : MthA X "list.extend" rExtend aExt := by
  refine ⟨mt_extend, ?_⟩
  rintro x xs d ds H F S R Q P T dx dvs ⟨a, l, e, m, rfl, h1, rfl, he, hl, q⟩ po
  obtain ⟨ys, rfl, h2, h3, hz⟩ := own_ok T dx h1
  cases dvs with
  | cons h t =>
    cases t
    obtain ⟨b, zs, rfl, h4, h5, _⟩ := asL_ok T h he
    exact ⟨a, b, ys, zs, rfl, rfl, h2, h4, by rw [h3.len, h5.len]; exact hl, po .non _ F _ .non (Same.refl _) (T.write (c' := .lst (l ++ m)) h1 ⟨by rw [List.length_append]; exact hl, _, upd_same, h3.append h5⟩) .non q⟩
def aIndex : OM := fun d ds S Q => ∃ n y p ps j z, ds = [y] ∧ n ≤ 60 ∧ rd S n d = some (.list ps) ∧ rd S n y = some p ∧ ps[j]? = some z ∧ PyData.eqv z p = true ∧
  (∀ (m : Nat) (z' : PyData), m < j → ps[m]? = some z' → PyData.eqv z' p = false) ∧ Q (.int (j : Nat)) S
theorem asL_ref {K : KW} {F H : Hp} {S R : Sto} {x : V} {d : D} {n : Nat} {ps : List PyData} (T : Sta K F S R H) (dx : Dv K F x d) (h : rd S n d = some (.list ps)) : ∃ a, x = .ref a := by
  have := rd_dp T n d x _ dx h
  cases this
  exact ⟨_, rfl⟩
theorem m_index (hr : ∃ k, RoomG k X.A) : MthA X "list.index" (rIndexD X.K) aIndex := by
  obtain ⟨k, hr⟩ := hr
  refine ⟨mt_indexD (by have := hr.room.un; omega), ?_⟩
  rintro x xs d ds H F S R Q P T dx dvs ⟨n, y, p, ps, j, z, rfl, hn, h1, h2, h5, h6, h7, q⟩ po
  cases dvs with
  | cons h t =>
    cases t
    obtain ⟨a, rfl⟩ := asL_ref T dx h1
    exact ⟨a, _, p, ps, j, z, rfl, rfl, rd_dp T n d _ _ dx h1, rd_dp T n y _ _ h h2, rd_shaped h1 hn, rd_shaped h2 hn, h5, h6, h7, po _ H F S _ (Same.refl _) T (.int _) q⟩

/-! ### isinstance -/
def clsD : D → Option Value
  | .ty n => some (.type n)
  | .own C => some (.ref C)
  | _ => none
theorem clsD_ok {K : KW} {F : Hp} {v : V} {d : D} {u : Value} (h : Dv K F v d) (e : clsD d = some u) : ClsV v u := by
  cases h with
  | ty n => cases e; exact .ty n
  | own a => cases e; exact .own a
  | _ => cases e
/-- what isinstance asks of an instance's class -/
structure IsiOk (K : PySem.W.Frag) (C : Addr) : Prop where
  cl : Cls K C
  ca : PySem.W.findIn K (.ref C) "__class__" = some (some (.builtin "object.__class__"))
  cn : PySem.W.specialIn K (.builtin "object.__class__") "__get__" = some (some (.builtin "getset_descriptor.__get__"))
  ct : PySem.W.takesIn K (.builtin "object.__class__") = some true
  cm : PySem.W.mroIn K C (.type "object") = some true
def tyD (S : Sto) : D → Option Value
  | .non => some (.type "NoneType")
  | .bl _ => some (.type "bool")
  | .int _ => some (.type "int")
  | .str _ => some (.type "str")
  | .lst _ => some (.type "list")
  | .tup _ => some (.type "tuple")
  | .own a => match S a with
    | some (.lst _) => some (.type "list")
    | some .pot => some (.type "list")
    | some (.dct _) => some (.type "dict")
    | some (.ins C _) => some (.ref C)
    | none => none
  | _ => none
theorem sqT_ty {K : KW} {H : Hp} {a : Addr} {xs : List V} (h : SqT K.K H a xs) : TyX K.K H (.ref a) (.type "tuple") := by
  rcases h with (h | ⟨o, h⟩) | ⟨o, its, n, h1, h2, _⟩
  · exact .base (.tup h)
  · exact .fTuple h
  · exact .kTuple h1 h2
theorem tyD_ok {K : KW} {F H : Hp} {S R : Sto} {v : V} {d : D} {t : Value} (T : Sta K F S R H) (h : Dv K F v d) (e : tyD S d = some t) (ok : ∀ C, t = .ref C → IsiOk K.K C) : TyX K.K H v t := by
  cases h with
  | non => cases e; exact .base .non
  | bl b => cases e; exact .base (.bl b)
  | int b => cases e; exact .base (.int b)
  | str b => cases e; exact .base (.str b)
  | lst h _ _ => cases e; exact .base (.lst (T.le _ _ h))
  | tup h _ _ => cases e; exact sqT_ty (SqT.same T.le h)
  | own a =>
    have e' : (match S a with
      | some (.lst _) => some (Value.type "list")
      | some .pot => some (Value.type "list")
      | some (.dct _) => some (Value.type "dict")
      | some (.ins C _) => some (Value.ref C)
      | none => none) = some t := e
    split at e'
    · rename_i l hS
      cases e'
      obtain ⟨_, _, xs, h1, _⟩ := T.own _ _ hS
      exact .base (.lst h1)
    · rename_i hS
      cases e'
      obtain ⟨_, x, y, h1, _⟩ := T.own _ _ hS
      exact .base (.lst h1)
    · rename_i m hS
      cases e'
      obtain ⟨_, _, l, h1, _⟩ := T.own _ _ hS
      exact .base (.dK h1)
    · rename_i C fs hS
      cases e'
      obtain ⟨_, dx, gs, h1, _⟩ := T.own _ _ hS
      have k := ok C rfl
      exact .base (.ins h1 k.cl k.ca k.cn k.ct k.cm)
    · cases e'
  | _ => cases e
/-- isinstance(x, c) -/
def aIsi (K : PySem.W.Frag) (ok : Addr → Prop) : ON := fun ds S Q => ∃ d c t u b, ds = [d, c] ∧ clsD c = some u ∧ tyD S d = some t ∧ (∀ C, t = .ref C → ok C) ∧ PySem.W.kitOne K t u = some b ∧ Q (.bl b) S
theorem c_isi {ok : Addr → Prop} (hok : ∀ C, ok C → IsiOk X.K C) : CallA X (.builtin "isinstance") (rIsi X.K) (aIsi X.K ok) := by
  refine ⟨call_isi, ?_⟩
  rintro xs ds H F S R Q P T dvs ⟨d, c, t, u, b, rfl, h1, h2, h3, h4, q⟩ po
  cases dvs with
  | cons a1 t1 =>
    cases t1 with
    | cons a2 t2 =>
      cases t2
      exact ⟨_, _, t, u, b, rfl, clsD_ok a2 h1, tyD_ok T a1 h2 (fun C e => hok C (h3 C e)), h4, po _ H F S _ (Same.refl _) T (.bl b) q⟩

/-! ### repr -/
def rRepr (K : PySem.W.Frag) : List V → Hp → VK → Prop := fun xs H Q => ∃ (a : Addr) (d : PyData), xs = [.ref a] ∧ Dp K H (.ref a) d ∧ d.showable = true ∧ d.hasDict = false ∧ d.depth ≤ 60 ∧ d.shown.length ≤ sizeLine ∧ Q (.str d.shown) H
theorem call_repr (hr : ∃ k, RoomG k X.A) : CallR X (.builtin "repr") (rRepr X.K) := by
  intro pins s σ H xs us Q I r h
  obtain ⟨k, hr⟩ := hr
  obtain ⟨a, d, rfl, hd, h1, h2, h3, h4, q⟩ := h
  obtain ⟨u, rfl, ru⟩ := vals1 r
  obtain rfl : u = Value.ref a := ru
  obtain ⟨as, hR⟩ := Dp.reads I d (V.ref a) (Value.ref a) hd rfl
  refine repr_of_reads' hR h1 (fun z => by rw [h2] at z; cases z) hr.gd (by have := hr.room.un; omega) (fun b o e => e) (fun h' u tk hk => ?_) h4
  exact ⟨.str d.shown, H, I.kept hk, ⟨_, rfl⟩, q⟩
mutual
/-- all numbers in it are below 10 ** 12 -/
def sml : PyData → Bool
  | .none | .bool _ | .str _ => true
  | .int i => decide (i.natAbs < 10 ^ 12)
  | .list l => smlAll l
  | .tuple l => smlAll l
  | .dict _ => false
def smlAll : List PyData → Bool
  | [] => true
  | x :: r => sml x && smlAll r
end
mutual
theorem sml_show : ∀ p : PyData, sml p = true → p.showable = true ∧ p.intsShort 13 = true
  | .none, _ => ⟨rfl, rfl⟩
  | .bool _, _ => ⟨rfl, rfl⟩
  | .str _, _ => ⟨rfl, rfl⟩
  | .int i, h => by
    have h1 : i.natAbs < 10 ^ 12 := by simpa only [sml, decide_eq_true_eq] using h
    refine ⟨?_, by simp only [PyData.intsShort, decide_eq_true_eq]; exact PyData.shown_int_le h1⟩
    simp only [PyData.showable, decide_eq_true_eq]
    have h2 : i.natAbs < 2 ^ 1920 := Nat.lt_of_lt_of_le h1 (by decide +kernel)
    by_cases z : i.natAbs = 0
    · rw [z]; decide
    · exact (Nat.log2_lt z).mpr h2
  | .list l, h => by
    have h1 : smlAll l = true := by simpa only [sml] using h
    simp only [PyData.showable, PyData.intsShort]
    exact smlAll_show l h1
  | .tuple l, h => by
    have h1 : smlAll l = true := by simpa only [sml] using h
    simp only [PyData.showable, PyData.intsShort]
    exact smlAll_show l h1
  | .dict _, h => by simp only [sml] at h; cases h
theorem smlAll_show : ∀ l : List PyData, smlAll l = true → PyData.showableAll l = true ∧ PyData.intsShortAll 13 l = true
  | [], _ => ⟨rfl, rfl⟩
  | x :: r, h => by
    have h1 : sml x = true ∧ smlAll r = true := by simpa only [smlAll, Bool.and_eq_true] using h
    obtain ⟨a1, a2⟩ := sml_show x h1.1
    obtain ⟨b1, b2⟩ := smlAll_show r h1.2
    exact ⟨by simp only [PyData.showableAll, a1, b1, Bool.and_self], by simp only [PyData.intsShortAll, a2, b2, Bool.and_self]⟩
end
def aRepr : ON := fun ds S Q => ∃ d n p, ds = [d] ∧ n ≤ 60 ∧ rd S n d = some p ∧ ((∃ l, p = .list l) ∨ ∃ l, p = .tuple l) ∧ sml p = true ∧ p.weight ≤ 2 ^ 20 ∧ Q (.str p.shown) S
theorem c_repr (hr : ∃ k, RoomG k X.A) : CallA X (.builtin "repr") (rRepr X.K) aRepr := by
  refine ⟨call_repr hr, ?_⟩
  rintro xs ds H F S R Q P T dvs ⟨d, n, p, rfl, hn, h1, h0, g1, g2, q⟩ po
  obtain ⟨h2, g3⟩ := sml_show p g1
  obtain ⟨g4, g5⟩ := rd_lay n d p h1
  have h3 : p.hasDict = false := PyData.hasDict_of_canLay p g4
  have h4 : p.depth ≤ 60 := by omega
  have h5 : p.shown.length ≤ sizeLine := PyData.shown_fits (B := 13) (by decide) (by decide) (PyData.leavesShort_of_canLay0 13 p g4 g3) g2
  cases dvs with
  | cons h t =>
    cases t
    have hd := rd_dp T n d _ p h h1
    have fin := po (.str p.shown) H F S _ (Same.refl _) T (.str _) q
    rcases h0 with ⟨l, rfl⟩ | ⟨l, rfl⟩
    · cases hd with
      | lst a b => exact ⟨_, _, rfl, .lst a b, h2, h3, h4, h5, fin⟩
    · cases hd with
      | tup a b => exact ⟨_, _, rfl, .tup a b, h2, h3, h4, h5, fin⟩
end

/-! ### a def run deeper -/
theorem RoomG.in1 {k : Nat} {A : Around} (r : RoomG (k + 1) A) : RoomG k A.in1 := ⟨Room.in1 r.room, r.gd⟩
section
variable {X : Cx} {W : WX} {k : Nat} {f : Addr} {fd : FuncData} {ps : List Str} {sp : Sp}
theorem run_gA {A : Around} {pins : List (Addr × Obj)} {σ : St} {H : Hp} {s : Shared} {Q : VK} {us : List Value} {vs : List V} {pa : List Value} {kw : List (Str × Value)} (F : FnG X.prog X.w X.K X.mg X.base k f fd ps sp) (hr : RoomG k A)
    (e0 : Env0 X.prog X.w X.K X.mg X.base A X.stack s H) (tk : Takes X W) (I : Inv X pins σ H s) (hb : BindsTo s fd ⟨pa, kw⟩ (ps.zip us)) (r : Vals vs us) (h : sp vs H Q (WE W σ)) :
    wpAny (model X.prog X.w) A (call (.ref f) pa kw) (EP X pins σ Q) X.xe s := by
  refine wpAny_call (codeAny_mono (F.run A X.stack s H ⟨pa, kw⟩ us vs Q (WE W σ) hr e0 hb r h) fun r s' hq => ?_)
  have := went tk I hq
  cases r with
  | error e => exact this
  | ok fl => cases fl <;> exact this
end

/-! ### len(x), x an instance -/
structure LenF (P : Program) (w : World) (K : PySem.W.Frag) (mg : Str → Option Value) (base : Heap) (C : Addr) (k : Nat) (sp : SpA) : Prop where
  ex : ∃ f fd ps, PySem.W.findIn K (.ref C) "__len__" = some (some (.ref f)) ∧ PySem.W.isFn K (.ref f) = true ∧ Binds K fd ps [] ∧ FnA P w K mg base k f fd ps sp
section
variable {X : Cx} {W : WX} {k : Nat} {sp : SpA}
def rLenO (K : KW) (ok : Addr → Prop) (sp : SpA) : List V → Hp → VK → Prop := fun xs H Q => ∃ a C dx gs, xs = [.ref a] ∧ H a = some (.ins C dx gs) ∧ ok C ∧ csp K sp [.ref a] H (fun v H' => ∃ n, v = .int n ∧ 0 ≤ n ∧ n < 2 ^ 63 ∧ Q (.int n) H') (fun _ _ _ => False)
theorem call_lenO {ok : Addr → Prop} (M : ∀ C, ok C → LenF X.prog X.w X.K X.mg X.base C k sp) (hr : RoomG (k + 1) X.A) : CallR X (.builtin "len") (rLenO X.kw ok sp) := by
  intro pins s σ H xs us Q I r h
  obtain ⟨a, C, dx, gs, rfl, ha, hok, q⟩ := h
  obtain ⟨u, rfl, ru⟩ := vals1 r
  obtain rfl : u = Value.ref a := ru
  obtain ⟨f, fd, ps, h1, h2, h3, F⟩ := (M C hok).ex
  obtain ⟨mA, O, _⟩ := ins_get I.hok ha
  obtain ⟨od, J, _⟩ := O.look
  obtain ⟨m, fr⟩ := I.fr
  refine PySem.W.len_K fr I.ok.mod.kin J h1 h2 ?_
  have hl : ([Value.ref a] ++ []).length = ps.length := F.g.len _ _ _ _ q
  have hb := h3 s [.ref a] I.kIn hl
  refine wpAny_mono (run_gA (W := W0) F.g hr.in1 I.env0.in1 tk0 I hb (show Vals [V.ref a] [Value.ref a] from .cons rfl .nil) q) (fun v s' z => ?_) fun _ _ x => x
  obtain ⟨x, H', I', rx, n, rfl, n0, n1, qz⟩ := z
  obtain ⟨t, rfl⟩ := rx
  exact ⟨⟨n0, n1⟩, .int n, H', I'.tok _, ⟨_, rfl⟩, qz⟩
def aLenO (ok : Addr → Prop) (sp : SpA) : ON := fun ds S Q => ∃ d C fs, ds = [d] ∧ insOf S d = some (C, fs) ∧ ok C ∧ sp [d] S (Ret (onI fun n S' => 0 ≤ n ∧ n < 2 ^ 63 ∧ Q (.int n) S')) noX
theorem c_lenO {ok : Addr → Prop} (M : ∀ C, ok C → LenF X.prog X.w X.K X.mg X.base C k sp) (hr : RoomG (k + 1) X.A) : CallA X (.builtin "len") (rLenO X.kw ok sp) (aLenO ok sp) := by
  refine ⟨call_lenO M hr, ?_⟩
  rintro xs ds H F S R Q P T dvs ⟨d, C, fs, rfl, h1, h2, q⟩ po
  cases dvs with
  | cons h t =>
    cases t
    obtain ⟨a, dx, gs, rfl, rfl, hS, hH, hp⟩ := insOf_ok T h h1
    refine ⟨a, C, dx, gs, rfl, hH, h2, [.own a], F, S, R, _, noX, .cons h .nil, T, q, ret_post fun v H' F' S' d e T' dv q' => ?_, fun _ _ _ _ _ _ _ _ _ z => z.elim⟩
    cases dv with
    | int n => exact ⟨n, rfl, q'.1, q'.2.1, po _ H' F' S' _ e T' (.int n) q'.2.2⟩
    | _ => exact (show False from q').elim
end

/-! ### C.m(e, ..), C a class of the module: its def, called with all that is written -/
structure CMF (P : Program) (w : World) (K : PySem.W.Frag) (mg : Str → Option Value) (base : Heap) (x m : Str) (k : Nat) (ps : List Str) (dvs : List D) (sp : SpA) : Prop where
  ex : ∃ C mc f fd vs us, mg x = some (.ref C) ∧ CRead K C mc ∧ PySem.W.findCls K (.ref C) mc m = some (.val (.ref f)) ∧ PySem.W.keepIn K (.ref f) = true ∧ Vals vs us ∧ (∀ F, DvL ⟨K, w⟩ F vs dvs) ∧ Binds K fd ps us ∧ FnA P w K mg base k f fd ps sp
section
variable {X : Cx} {W : WX} {k : Nat} {ps : List Str} {sp : SpA} {x m : Str} {p1 p2 pos : Pos} {e : Expr} {es : List Expr} {t : TA} {ar : AA}
def tClD (K : KW) (W : WX) (sp : SpA) (dvs : List D) (t : TA) : TE := fun σ H Q => t σ H fun vs H1 => ∃ ds F S R Q' E, DvL K F vs ds ∧ Sta K F S R H1 ∧ sp (ds ++ dvs) S Q' E ∧ Post K F R Q' Q ∧ ∀ cls dd H' F' S' x, Same F F' → Sta K F' S' R H' → XR K F' H' cls dd x → E x S' → W cls dd σ H'
theorem ea_clsm {dvs : List D} {pl : Sem Bool} (G : CMF X.prog X.w X.K X.mg X.base x m k ps dvs sp) (hr : RoomG k X.A) (tk : Takes X W) (h : ArA X W (e :: es) t ar) (hg : Gl X x := by rfl) (hdb : (x == ("__debug__" : Str)) = false := by decide)
    (hc : eval (.Call (.Attribute (.Name x p1) m p2) (e :: es) [] pos) X.env = (do
      let ov ← eval (.Name x p1) X.env
      standAt p2.atName
      let (f, first) ← holding [ov] (getMethod ov m pl)
      callWith pos f first (backTo pos (starEach (e :: es) X.env)) (backToKw pos (keywordEach [] X.env))) := by rfl)
    (he : starEach (e :: es) X.env = (false, eval e X.env) :: starEach es X.env := by rfl) (hpl : (backTo pos (starEach es X.env)).any (·.1) = false := by rfl) :
    EA X W (.Call (.Attribute (.Name x p1) m p2) (e :: es) [] pos) (tClD X.kw W sp dvs t) (aClD sp dvs ar) := by
  obtain ⟨C, mc, f, fd, ws, us2, hm, hrd, hf, kp, hv, hdv, hb, F⟩ := G.ex
  refine ⟨⟨fun pins s σ H Q I q => ?_⟩, fun σ H F S R ρ Q E P T en wo q po => h.ra σ H F S R ρ _ E _ T en wo q fun vs H1 F1 S1 ds e1 T1 dvs q1 =>
    ⟨ds, F1, S1, R, Ret Q, E, dvs, T1, q1, ret_post (po.mono e1), wo.mono e1⟩⟩
  refine PySem.W.methodCall_KW (pl := pl) (ld_glob I hg hm ?_ hdb) hc
  refine PySem.W.method_cls I.kIn hrd.ga (getcval_ok (v := .ref f) I hrd ⟨hf, rfl⟩ fun s2 I2 => ?_)
  refine PySem.W.callWith_K (first := []) (h₀ := X.base) I.ok.mod.kin kp (thn (h.pa.run pos pins s2 σ H _ I2 q) fun us s1 ⟨vs, H1, I1, r, ds, F0, S0, R0, Q0, E0, d0, T0, q0, p0, x0⟩ => ⟨I1.kIn, ?_⟩) he hpl
  have q1 : csp X.kw sp (vs ++ ws) H1 Q (WE W σ) := ⟨ds ++ dvs, F0, S0, R0, Q0, E0, d0.append (hdv F0), T0, q0, p0, x0⟩
  have r2 := r.append hv
  exact run_g F.g hr tk I1 (hb s1 us I1.kIn (by rw [← r2.length]; exact F.g.len _ _ _ _ q1)) r2 q1
end

/-! ### a list of two numbers becomes a pot -/
theorem gh_pot {p : Addr} {x y : Int} {S : Sto} (e : S p = some (.lst [.int x, .int y])) (ok : PotOk x y) : Gh (.own p) S (.own p) (put S p .pot) := fun K F R H v T dv => by
  obtain ⟨hF, z, xs, hx, hxs⟩ := T.own p _ e
  cases hxs with
  | cons h1 t1 =>
    cases t1 with
    | cons h2 t2 =>
      cases t2
      cases h1
      cases h2
      have T2 := T.write (a := p) (o := .lst [V.int x, V.int y]) (c' := .pot) e ⟨x, y, upd_same, ok⟩
      have e2 : upd H p (.lst [V.int x, V.int y]) = H := by
        funext b
        by_cases q : b = p
        · subst q; rw [upd_same, hx]
        · rw [upd_ne q]
      rw [e2] at T2
      exact ⟨F, Same.refl _, T2, dv⟩
end A

/-! ## what the head tells: any checks of the written part -/
namespace A
open PySem PySem.Spec L2 PyProof.Rows He

/-! ### the Hook -/
abbrev Chk := PySem.W.Frag → Bool
/-- the objects that are looked at -/
def asX (g : Addr → Option Obj) : Nat → List Addr
  | 0 => [mainGlobals, cStatics]
  | n + 1 => growD g (asX g n)
def obX (fc : List Chk) (fn : List DefD) (K : PySem.W.Frag) : AlD := ((fc.all fun f => f K) && fn.all fun d => d.ok K, fn.map fun d => fnW K d.at_)
def SaysX (fc : List Chk) (fn : List DefD) (K : PySem.W.Frag) : Prop := obX fc fn K = valD fn
def obXG (n : Nat) (fc : List Chk) (fn : List DefD) (g : Addr → Option Obj) : AlD := obX fc fn (frG g (asX g n))
def hookX (n : Nat) (fc : List Chk) (fn : List DefD) : PySem.W.Hook where
  α := AlD
  obs := fun q => obXG n fc fn q.heap.get?
  val := fun _ => valD fn
  says := fun _ h => ∃ K : PySem.W.Frag, K.In h ∧ SaysX fc fn K
  of := fun _ _ he => ⟨_, frG_in, he⟩
  keeps := fun _ _ _ ⟨K, hK, z⟩ k => ⟨K, PySem.W.Frag.In.keeps hK k, z⟩
theorem obXG_eq {n : Nat} {fc : List Chk} {fn : List DefD} {g : Addr → Option Obj} {s : Shared} (h : ∀ a, g a = s.heap.get? a) : obXG n fc fn g = (hookX n fc fn).obs s := by
  have z : g = s.heap.get? := funext h
  rw [z]
  rfl
section
variable {fc : List Chk} {fn : List DefD} {K : PySem.W.Frag}
theorem SaysX.ck (c : SaysX fc fn K) (i : Nat) {f : Chk} (h : fc[i]? = some f := by rfl) : f K = true := by
  have c1 : ((fc.all fun f => f K) && fn.all fun d => d.ok K) = true := congrArg (fun z : AlD => z.1) c
  exact List.all_eq_true.mp (Bool.and_eq_true_iff.mp c1).1 f (List.mem_of_getElem? h)
theorem SaysX.df (c : SaysX fc fn K) (i : Nat) {d : DefD} (h : fn[i]? = some d := by rfl) : ∃ fd, FunD K d.name d.qual d.params d.body d.scope (d.dvs K) (d.kws K) (fAd K d.at_) fd := by
  have c1 : ((fc.all fun f => f K) && fn.all fun d => d.ok K) = true := congrArg (fun z : AlD => z.1) c
  have e : fn.map (fun d => fnW K d.at_) = fn.map DefD.val := congrArg (fun z : AlD => z.2) c
  have e2 : (fn.map fun d => fnW K d.at_)[i]? = (fn.map DefD.val)[i]? := by rw [e]
  rw [List.getElem?_map, List.getElem?_map, h] at e2
  exact DefD.funD (Option.some.inj e2) (List.all_eq_true.mp (Bool.and_eq_true_iff.mp c1).2 d (List.mem_of_getElem? h))
end
/-! ### checks -/
def kGlo (x : Str) : Chk := fun K => (Fa.glo x).ok K
def kFree (x : Str) : Chk := fun K => (Fa.free x).ok K
def kInt (x : Str) (i : Int) : Chk := fun K => (Fa.int x i).ok K
def kStr (x z : Str) : Chk := fun K => (Fa.str x z).ok K
def kCls (x : Str) : Chk := fun K => (Fa.cls x).ok K
def kNo (x f : Str) : Chk := fun K => (Fa.noat x f).ok K
abbrev DAt := Str × Option Str
def kMeth (x m : Str) (p : DAt) : Chk := fun K => eqO (PySem.W.findIn K (.ref (ga K x)) m) (some (some (.ref (fAd K p)))) && (PySem.W.isFn K (.ref (fAd K p)) && PySem.W.keepIn K (.ref (fAd K p)))
def kMk (x : Str) (p : DAt) : Chk := fun K => PySem.W.makesIn K (ga K x) && (eqO (PySem.W.findIn K (.ref (ga K x)) "__init__") (some (some (.ref (fAd K p)))) && (PySem.W.isFn K (.ref (fAd K p)) && PySem.W.keepIn K (.ref (ga K x))))
def kIsi (x : Str) : Chk := fun K => (Fa.cls x).ok K && (eqO (PySem.W.findIn K (.ref (ga K x)) "__class__") (some (some (.builtin "object.__class__"))) && (eqO (PySem.W.specialIn K (.builtin "object.__class__") "__get__") (some (some (.builtin "getset_descriptor.__get__"))) &&
  (decide (PySem.W.takesIn K (.builtin "object.__class__") = some true) && decide (PySem.W.mroIn K (ga K x) (.type "object") = some true))))
def kKit (x y : Str) (b : Bool) : Chk := fun K => decide (PySem.W.kitOne K (.ref (ga K x)) (.ref (ga K y)) = some b)
def kKitT (t : String) (y : Str) (b : Bool) : Chk := fun K => decide (PySem.W.kitOne K (.type t) (.ref (ga K y)) = some b)
def kKitU (x : Str) (t : String) (b : Bool) : Chk := fun K => decide (PySem.W.kitOne K (.ref (ga K x)) (.type t) = some b)
def valOf (r : Option PySem.W.CFound) : Option Value := match r with | some (.val v) => some v | _ => none
def kClm (x m : Str) (p : DAt) : Chk := fun K => PySem.W.readsIn K (ga K x) (.type "type") && (eqO (PySem.W.specialIn K (.ref (ga K x)) "__getattribute__") (some (some (.builtin "type.__getattribute__"))) &&
  decide (valOf (PySem.W.findCls K (.ref (ga K x)) (.type "type") m) = some (.ref (fAd K p))))
section
variable {K : PySem.W.Frag} {h : Heap} {mg : Str → Option Value}
theorem mk_ok {x : Str} {p : DAt} (c : kMk x p K = true) : Mk K (ga K x) (fAd K p) := by
  obtain ⟨c1, c⟩ := ba c
  obtain ⟨c2, c⟩ := ba c
  obtain ⟨c3, c4⟩ := ba c
  exact ⟨c1, eqO_ok c2, c3, c4⟩
theorem mt_ok {x m : Str} {p : DAt} (c : kMeth x m p K = true) : Meth K (ga K x) m (fAd K p) := by
  obtain ⟨c1, c⟩ := ba c
  obtain ⟨c2, c3⟩ := ba c
  exact ⟨eqO_ok c1, c2, c3⟩
theorem isi_ok {x : Str} (c : kIsi x K = true) : IsiOk K (ga K x) := by
  obtain ⟨c1, c⟩ := ba c
  obtain ⟨c2, c⟩ := ba c
  obtain ⟨c3, c⟩ := ba c
  obtain ⟨c4, c5⟩ := ba c
  exact ⟨cls_ok c1, eqO_ok c2, eqO_ok c3, of_decide_eq_true c4, of_decide_eq_true c5⟩
theorem fd_ok {x f : Str} (c1 : kCls x K = true) (c2 : kNo x f K = true) : FdOk K (ga K x) f := ⟨cls_ok c1, noat_ok c2⟩
theorem clm_ok {x m : Str} {p : DAt} (c : kClm x m p K = true) : ClX.CRead K (ga K x) (.type "type") ∧ PySem.W.findCls K (.ref (ga K x)) (.type "type") m = some (.val (.ref (fAd K p))) := by
  obtain ⟨c1, c⟩ := ba c
  obtain ⟨c2, c3⟩ := ba c
  refine ⟨⟨c1, eqO_ok c2⟩, ?_⟩
  have e : valOf (PySem.W.findCls K (.ref (ga K x)) (.type "type") m) = some (.ref (fAd K p)) := of_decide_eq_true c3
  unfold valOf at e
  split at e
  · rename_i v ev
    cases e
    exact ev
  · cases e
end
/-! ### a built-in type as a value -/
section
variable {X : Cx} {W : WX} {pos : Pos}
theorem ea_bty {x : Str} {n : String} (hm : X.mg x = none) (hv : bootBuiltins x = some (.type n) := by decide +kernel) (hg : Gl X x := by rfl) (hn : x ≠ "__name__" := by decide) (hd : (x == ("__debug__" : Str)) = false := by decide) :
    EA X W (.Name x pos) (tC (.ty n)) (aC (.ty n)) := ⟨pe_bltn hg hm hv rfl hn hd, re_c fun _ => .ty n⟩
end
end A

/-! ## small rules; what is promised of methods, classes -/
namespace A
open PySem PySem.Spec L2 PyProof.Rows
section
variable {X : Cx}
abbrev aIAdd : O2 := aI20 fun i j => .int (i + j)
theorem ip_add : IpA X .Add (rI0 fun i j => .int (i + j)) aIAdd := ⟨iop_add, k_i20 fun _ _ _ => .int _⟩
theorem ip_xor : IpA X .BitXor (rI0 fun i j => .int (Builtin.bitXor i j)) aXor := ⟨iop_xor, k_i20 fun _ _ _ => .int _⟩
end
theorem wofAny {E : XK} : ∀ {K : KW} {F : Hp} {R : Sto} {σ σ' : St} {E' : KX}, WOk K F R σ (wOf E) E' → WOk K F R σ' (wOf E) E' := fun h cls dd H' F' S' x e T xr q => h cls dd H' F' S' x e T xr q
theorem noWAny : ∀ {K : KW} {F : Hp} {R : Sto} {σ σ' : St} {E' : KX}, WOk K F R σ W0 E' → WOk K F R σ' W0 E' := fun h cls dd H' F' S' x e T xr q => h cls dd H' F' S' x e T xr q
end A

/-! ## len(set(xs)) of a list of ints -/
namespace A
open PySem PySem.Spec L2 PyProof.Rows
/-- how many unlike ints -/
def unl (ns : List Int) : Nat := (firstMet (fun i => ns.getD i 0) ns.length).length
theorem unl_nodup {ns : List Int} (h : ns.Nodup) : unl ns = ns.length := by
  unfold unl
  rw [L2.firstMet_nodup ns h ns.length (Nat.le_refl _), List.take_length]
section
variable {X : Cx} {W : WX} {a : Expr} {ta : TE} {aa : AE} {p p2 q pos : Pos}
def tLnSt (K : PySem.W.Frag) (ta : TE) : TE := fun σ H Q => ta σ H fun x H1 => ∃ (l : Addr) (ns : List Int), x = V.ref l ∧ SqL K H1 l (ns.map V.int) ∧ ns.length ≤ 4000 ∧ Q (.int (unl ns)) H1
theorem pe_lnSt (hc : X.calm = true) (hg : Gl X "len") (hm : X.mg "len" = none) (hg2 : Gl X "set") (hm2 : X.mg "set" = none) (ha : PE X a ta)
    (na : starEach [a] X.env = (false, eval a X.env) :: starEach [] X.env) : PE X (.Call (.Name "len" p) [.Call (.Name "set" p2) [a] [] q] [] pos) (tLnSt X.K ta) := by
  refine ⟨fun pins z σ H Q I hq => Call_ (ld_blt I hg hm PySem.boot_len (callWith_builtin1 (args_cons (Call_ (ld_blt I hg2 hm2 boot_set
    (callWith_type1 (args_cons (thn (ha.run pins z σ H _ I hq) fun v z1 ⟨x, H1, I1, r1, q1⟩ => args_nil ?_) na) na rfl))) rfl) rfl rfl))⟩
  obtain ⟨l, ns, rfl, hl, hn, q1⟩ := q1
  cases r1
  obtain ⟨its, r, pl, hz⟩ := I1.list hl
  have sz : its.toArray.size = ns.length := by rw [List.size_toArray, ← r.length, List.length_map]
  refine call_set_list (I1.ok.hd hc) pl.isList (ns := ns) (by simpa using r.ints) (by unfold scanBound; omega) fun g tk hS hk => args_nil ?_
  rw [sz] at hS
  obtain ⟨o, es, ep, t, ho, hex, hd, _, _, _, hf, hs⟩ := hS
  have I2 : Inv X pins σ H1 { z1 with heap := g, toks := tk } := I1.kept fun b o he => hk b o (Heap.lt_size he) he
  have hu : es.size = unl ns := hs
  have hb : unl ns ≤ ns.length := by
    unfold unl
    have : ∀ i, (firstMet (fun i => ns.getD i 0) i).length ≤ i := by
      intro i
      induction i with
      | zero => exact Nat.le_refl _
      | succ i ih =>
        rw [firstMet_succ]
        unfold step_dedup
        split
        · omega
        · rw [List.length_append, List.length_singleton]; omega
    exact this _
  exact call_len_set ho hex hd hf (by rw [hu]; omega) ⟨.int (unl ns), H1, I2.tok _, ⟨_, by rw [hu]⟩, q1⟩
def intsOf : List D → Option (List Int)
  | [] => some []
  | .int b :: r => (intsOf r).map (b :: ·)
  | _ :: _ => none
theorem intsOf_map : ∀ bs : List Int, intsOf (bs.map D.int) = some bs
  | [] => rfl
  | b :: r => by show (intsOf (r.map D.int)).map (b :: ·) = _; rw [intsOf_map r]; rfl
theorem intsOf_ok : ∀ {ds : List D} {bs : List Int}, intsOf ds = some bs → ds = bs.map D.int
  | [], _, h => by cases h; rfl
  | .int b :: r, bs, h => by
    have h' : (intsOf r).map (b :: ·) = some bs := h
    obtain ⟨q, e1, e2⟩ := Option.map_eq_some_iff.mp h'
    subst e2
    rw [intsOf_ok e1]
    rfl
  | .non :: _, _, h => by cases h
  | .bl _ :: _, _, h => by cases h
  | .str _ :: _, _, h => by cases h
  | .ty _ :: _, _, h => by cases h
  | .lst _ :: _, _, h => by cases h
  | .tup _ :: _, _, h => by cases h
  | .set _ :: _, _, h => by cases h
  | .own _ :: _, _, h => by cases h
  | .scr _ :: _, _, h => by cases h
def aLnSt (aa : AE) : AE := fun ρ S Q E => aa ρ S (fun d S1 => ∃ l ns, asL S1 d = some l ∧ intsOf l = some ns ∧ ns.length ≤ 4000 ∧ Q (.int (unl ns)) S1) E
theorem ea_lnSt (hc : X.calm = true) (hm : X.mg "len" = none) (hm2 : X.mg "set" = none) (ha : EA X W a ta aa) (hg : Gl X "len" := by rfl) (hg2 : Gl X "set" := by rfl)
    (na : starEach [a] X.env = (false, eval a X.env) :: starEach [] X.env := by rfl) : EA X W (.Call (.Name "len" p) [.Call (.Name "set" p2) [a] [] q] [] pos) (tLnSt X.K ta) (aLnSt aa) := by
  refine ⟨pe_lnSt hc hg hm hg2 hm2 ha.pe na, fun σ H F S R ρ Q E P T en wo q po => ha.re σ H F S R ρ _ E _ T en wo q fun v H1 F1 S1 d e1 T1 dv q1 => ?_⟩
  obtain ⟨l, ns, h1, h2, h3, q2⟩ := q1
  obtain ⟨b, xs, rfl, g1, g2, _⟩ := asL_ok T1 dv h1
  rw [intsOf_ok h2] at g2
  exact ⟨b, ns, rfl, by rw [← g2.toInts]; exact SqL.of g1, h3, po _ H1 F1 S1 _ e1 T1 (.int _) q2⟩
end
end A

namespace A
open PySem PySem.Spec L2 PyProof.Rows
section
variable {S : Sto} {Q : KD} {d e : D} {i j : Int} {b : Bool}
theorem atV_s {P : D → Prop} : atV (some (some d)) P = P d := rfl
theorem onB_b {f : Bool → Sto → Prop} : onB f (.bl b) S = f b S := rfl
theorem onI_i {f : Int → Sto → Prop} : onI f (.int i) S = f i S := rfl
theorem onII_i {f : Int → Int → Prop} : onII f (.int i) (.int j) = f i j := rfl
theorem onL1_i {f : Int → Prop} : onL1 f [.int i] = f i := rfl
theorem onL2_i {f : Int → Int → Prop} : onL2 f [.int i, .int j] = f i j := rfl
section
variable {P : List D → (Sto → Prop) → Sto → Prop} {l : List D} {z : Str} {ns : List Int}
theorem it_l : aItD (.lst l) S P = P l (fun _ => True) S := rfl
theorem it_t : aItD (.tup l) S P = P l (fun _ => True) S := rfl
theorem it_s : aItD (.scr ns) S P = P (ns.map D.int) (fun _ => True) S := rfl
theorem it_x : aItD (.str z) S P = (z.cps.size ≤ sizeLine ∧ P (signs z) (fun _ => True) S) := rfl
end
theorem ix_l {l : List D} : aIx (.lst l) (.int i) S Q = ∃ x, atI l i = some x ∧ Q x S := rfl
theorem ix_t {l : List D} : aIx (.tup l) (.int i) S Q = ∃ x, atI l i = some x ∧ Q x S := rfl
theorem ix_s {l : List Int} : aIx (.scr l) (.int i) S Q = ∃ x, atI l i = some x ∧ Q (.int x) S := rfl
theorem add_i : aAdd (.int i) (.int j) S Q = Q (.int (i + j)) S := rfl
theorem add_x {x y : Str} : aAdd (.str x) (.str y) S Q = (x.length + y.length ≤ sizeLine ∧ Q (.str (x ++ y)) S) := rfl
theorem eq_i {n : Bool} : aEqD n (.int i) (.int j) S Q = Q (.bl (if n then !decide (i = j) else decide (i = j))) S := rfl
theorem eq_x {n : Bool} {x y : Str} : aEqD n (.str x) (.str y) S Q = Q (.bl (if n then !decide (x = y) else decide (x = y))) S := rfl
theorem eq_b {n : Bool} {c : Bool} : aEqD n (.bl b) (.bl c) S Q = Q (.bl (if n then !decide (b = c) else decide (b = c))) S := rfl
theorem is_b {n : Bool} {c : Bool} : aIs n (.bl b) (.bl c) S Q = Q (.bl (if n then !decide (b = c) else decide (b = c))) S := rfl
end
local macro_rules | `(tactic| walk_at "A.go") => `(tactic| simp only [aSeq, aNext, aSet, aVar, atV_s, onB_b, onI_i, onII_i, onL1_i, onL2_i, it_l, it_t, it_s, it_x, ix_l, ix_t, ix_s, add_i, add_x, eq_i, eq_x, eq_b, is_b, aC, aNil, aCons, aOp, aUn, aTup, aLst, aCB, aNot, aAnd, aOr, aTst, aIfE, aAndV, aOrV, aNotV, aChn, aDrop, aRet, aRetN, aIf, agName, agNil, agCons, agTup, aAsg, aPar, aAug, aFor, aRng1, aRng2, aIter, aLc, aYes,
  aCl, aMt, aMk, aFl, aFst, aNeg, aI2, aI20, aLe, aLt, aGt, aGe, aSub, aMod, aMul, aFdv, aPow, aXor, aShl, aShr, agSub, aoN, aoS, aSl, aRev, aLen, aList, aTupOf, aLRg1, aLRg2, aAbs, aI2N, aMax, aMin, aDm, aAll, aAny, aBM, aApp, aPopAt, aPop, aClear, aRevM, aExt, aRepr, aClD, aLnSt, aIAdd, aBreak, aCont,
  aEnd, startA, List.map_cons, List.map_nil, List.cons_append, List.nil_append, List.length_cons, List.length_nil, List.replicate, List.getElem?_cons_zero, List.getElem?_cons_succ, List.set_cons_zero, List.set_cons_succ, Nat.reduceAdd, Nat.reduceSub, Nat.succ_eq_add_one, Int.reduceAdd, Int.reduceMul,
  reduceIte, Bool.false_eq_true, Bool.not_true, Bool.not_false, ite_true, ite_false])
theorem asL_own {S : Sto} {a : Addr} {l : List D} (h : S a = some (.lst l)) : asL S (.own a) = some l := by
  show (match S a with | some (.lst l) => some l | _ => none) = _
  rw [h]
theorem asL_inv {S : Sto} {a : Addr} {l : List D} (h : asL S (.own a) = some l) : S a = some (.lst l) := by
  have h' : (match S a with | some (.lst l) => some l | _ => none) = some l := h
  split at h'
  · rename_i m e; cases h'; exact e
  · cases h'
theorem asL_sub {S S' : Sto} {d : D} {l : List D} (h : Sub S S') (e : asL S d = some l) : asL S' d = some l := by
  cases d with
  | lst m => exact e
  | own a => exact asL_own (h a _ (asL_inv e))
  | _ => cases e
theorem ix_asL {S : Sto} {d x : D} {l : List D} {i : Int} {Q : KD} (h : asL S d = some l) (e : atI l i = some x) (q : Q x S) : aIx d (.int i) S Q := by
  cases d with
  | lst m => cases h; exact ⟨x, e, q⟩
  | own a =>
    unfold aIx
    simp only [asL_inv h]
    exact ⟨x, e, q⟩
  | _ => cases h
theorem ix_pot {S : Sto} {a : Addr} {i : Int} {Q : KD} (h : S a = some .pot) (q : ∀ x y, PotOk x y → ∃ z, atI [x, y] i = some z ∧ Q (.int z) S) : aIx (.own a) (.int i) S Q := by
  unfold aIx
  simp only [h]
  exact q
theorem put_own {S : Sto} {a : Addr} {i : Int} {j : Nat} {v : D} {l : List D} {Q : Sto → Prop} (h : S a = some (.lst l)) (e : ixN l.length i = some j) (q : Q (put S a (.lst (l.set j v)))) : aPut (.own a) (.int i) v S Q := by
  unfold aPut
  simp only [h]
  exact ⟨j, e, q⟩
theorem put_pot0 {S : Sto} {a : Addr} {n : Int} {Q : Sto → Prop} (h : S a = some .pot) (n0 : 0 ≤ n) (n1 : n.natAbs.log2 < 2 ^ 20 + 64) (q : Q S) : aPut (.own a) (.int 0) (.int n) S Q := by
  unfold aPut
  simp only [h]
  exact ⟨n, rfl, .inl ⟨trivial, n0, n1⟩, q⟩
theorem put_pot1 {S : Sto} {a : Addr} {n : Int} {Q : Sto → Prop} (h : S a = some .pot) (n0 : 0 ≤ n) (n1 : n < 2147483648) (q : Q S) : aPut (.own a) (.int 1) (.int n) S Q := by
  unfold aPut
  simp only [h]
  exact ⟨n, rfl, .inr ⟨trivial, n0, n1⟩, q⟩
theorem iter_asL {S : Sto} {d : D} {l : List D} {Q : List D → (Sto → Prop) → Sto → Prop} (h : asL S d = some l) (q : ∀ G : Sto → Prop, (∀ S', asL S' d = some l → G S') → Q l G S) : aItD d S Q := by
  cases d with
  | lst m => cases h; exact q _ fun _ _ => trivial
  | own a => exact ⟨l, asL_inv h, q _ fun S' h2 => asL_inv h2⟩
  | _ => cases h
theorem tyD_asL {S : Sto} {d : D} {l : List D} (h : asL S d = some l) : tyD S d = some (.type "list") := by
  cases d with
  | lst m => rfl
  | own a =>
    unfold tyD
    simp only [asL_inv h]
  | _ => cases h
theorem lenD_asL {S : Sto} {d : D} {l : List D} (h : asL S d = some l) : lenD S d = some l.length := by
  cases d with
  | lst m => cases h; rfl
  | own a =>
    unfold lenD
    simp only [asL_inv h]
  | _ => cases h
theorem itD_asL {S : Sto} {d : D} {l : List D} (h : asL S d = some l) : itD S d = some l := by
  cases d with
  | lst m => exact h
  | own a => exact h
  | _ => cases h
theorem asSq_asL {S : Sto} {d : D} {l : List D} (h : asL S d = some l) : asSq S d = some l := by
  cases d with
  | lst m => exact h
  | own a => exact h
  | _ => cases h
end A

/-! ## loops by invariants; data of ints -/
namespace A
open PySem PySem.Spec L2 PyProof.Rows
local macro_rules | `(tactic| walk_at "A.go") => `(tactic| simp only [aSeq, aNext, aSet, aVar, atV_s, onB_b, onI_i, onII_i, onL1_i, onL2_i, it_l, it_t, it_s, it_x, ix_l, ix_t, ix_s, add_i, add_x, eq_i, eq_x, eq_b, is_b, aC, aNil, aCons, aOp, aUn, aTup, aLst, aCB, aNot, aAnd, aOr, aTst, aIfE, aAndV, aOrV, aNotV, aChn, aDrop, aRet, aRetN, aIf, agName, agNil, agCons, agTup, aAsg, aPar, aAug, aFor, aRng1, aRng2, aIter, aLc, aYes,
  aCl, aMt, aMk, aFl, aFst, aNeg, aI2, aI20, aLe, aLt, aGt, aGe, aSub, aMod, aMul, aFdv, aPow, aXor, aShl, aShr, agSub, aoN, aoS, aSl, aRev, aLen, aList, aTupOf, aLRg1, aLRg2, aAbs, aI2N, aMax, aMin, aDm, aAll, aAny, aBM, aApp, aPopAt, aPop, aClear, aRevM, aExt, aRepr, aClD, aLnSt, aIAdd, aBreak, aCont,
  aEnd, startA, List.map_cons, List.map_nil, List.cons_append, List.nil_append, List.length_cons, List.length_nil, List.replicate, List.getElem?_cons_zero, List.getElem?_cons_succ, List.set_cons_zero, List.set_cons_succ, Nat.reduceAdd, Nat.reduceSub, Nat.succ_eq_add_one, Int.reduceAdd, Int.reduceMul,
  reduceIte, Bool.false_eq_true, Bool.not_true, Bool.not_false, ite_true, ite_false])

theorem aLoop_inv {g : AG} {b : AS} {E : AEnds} {G : Sto → Prop} {ds : List D} (I : Nat → En → Sto → Prop)
    (step : ∀ i d ρ S (nx : En → Sto → Prop), ds[i]? = some d → I i ρ S → (∀ ρ' S', I (i + 1) ρ' S' → nx ρ' S') → G S ∧ g d ρ S (fun ρ1 S1 => b { E with nx := nx, ct := nx, bk := E.nx } ρ1 S1) (E.xx ρ))
    (last : ∀ ρ S, I ds.length ρ S → G S ∧ E.nx ρ S) : ∀ {ρ : En} {S : Sto}, I 0 ρ S → aLoop g b E G ds ρ S := by
  have main : ∀ (k i : Nat), i + k = ds.length → ∀ ρ S, I i ρ S → aLoop g b E G (ds.drop i) ρ S := by
    intro k
    induction k with
    | zero =>
      intro i hi ρ S h
      have e : i = ds.length := by omega
      subst e
      rw [List.drop_length]
      exact last ρ S h
    | succ k ih =>
      intro i hi ρ S h
      have lt : i < ds.length := by omega
      rw [List.drop_eq_getElem_cons lt]
      exact step i ds[i] ρ S _ (List.getElem?_eq_getElem lt) h fun ρ' S' h' => ih (i + 1) (by omega) ρ' S' h'
  intro ρ S h
  exact main ds.length 0 (by omega) ρ S h
theorem aLcL_inv {g : AG} {tt : AT} {e : AE} {G : Sto → Prop} {ρ0 : En} {Q : KD} {ds : List D} (I : Nat → List D → Sto → Prop)
    (step : ∀ i d acc S (k : List D → Sto → Prop), ds[i]? = some d → I i acc S → (∀ acc' S', I (i + 1) acc' S' → k acc' S') →
      G S ∧ g d ρ0 S (fun ρ2 S2 => tt ρ2 S2 (fun b S3 => if b = true then e ρ2 S3 (fun v S4 => k (acc ++ [v]) S4) noX else k acc S3) noX) noX)
    (last : ∀ acc S, I ds.length acc S → G S ∧ NewL acc S Q) : ∀ {S : Sto}, I 0 [] S → aLcL g tt e G ρ0 Q ds [] S := by
  have main : ∀ (k i : Nat), i + k = ds.length → ∀ acc S, I i acc S → aLcL g tt e G ρ0 Q (ds.drop i) acc S := by
    intro k
    induction k with
    | zero =>
      intro i hi acc S h
      have z : i = ds.length := by omega
      subst z
      rw [List.drop_length]
      exact last acc S h
    | succ k ih =>
      intro i hi acc S h
      have lt : i < ds.length := by omega
      rw [List.drop_eq_getElem_cons lt]
      exact step i ds[i] acc S (fun acc' S' => aLcL g tt e G ρ0 Q (ds.drop (i + 1)) acc' S') (List.getElem?_eq_getElem lt) h fun acc' S' h' => ih (i + 1) (by omega) acc' S' h'
  intro S h
  exact main ds.length 0 (by omega) [] S h
/-- [e for x in ds] where each value is f of the item and nothing else changes -/
theorem aLcL_map {i : Nat} {e : AE} {G : Sto → Prop} {ρ0 : En} {Q : KD} {ds : List D} {S : Sto} (f : D → D) (hG : G S) (step : ∀ d ∈ ds, ∀ k : D → Sto → Prop, k (f d) S → e (ρ0.set i (some d)) S k noX)
    (q : NewL (ds.map f) S Q) : aLcL (agName i) aYes e G ρ0 Q ds [] S := by
  refine aLcL_inv (fun j acc S' => S' = S ∧ acc = (ds.take j).map f) ?_ ?_ ⟨rfl, rfl⟩
  · rintro j d acc S' k hd ⟨rfl, rfl⟩ hk
    refine ⟨hG, ?_⟩
    change e (ρ0.set i (some d)) S' (fun v S4 => k ((ds.take j).map f ++ [v]) S4) noX
    refine step d (List.mem_of_getElem? hd) _ (hk _ _ ⟨rfl, ?_⟩)
    rw [List.take_add_one, hd]
    simp
  · rintro acc S' ⟨rfl, rfl⟩
    rw [List.take_length]
    exact ⟨hG, q⟩

/-! ### other views of several values -/
def GhL (ds : List D) (S : Sto) (ds' : List D) (S' : Sto) : Prop := ∀ K F R H vs, Sta K F S R H → DvL K F vs ds → ∃ F', Same F F' ∧ Sta K F' S' R H ∧ DvL K F' vs ds'
theorem ghl_nil {S S' : Sto} (h : Sub S' S) : GhL [] S [] S' := fun K F R H vs T dv => ⟨F, Same.refl _, T.drop h, dv⟩
theorem ghl_cons {d d' : D} {ds ds' : List D} {S S1 S' : Sto} (h : Gh d S d' S1) (k : GhL ds S1 ds' S') : GhL (d :: ds) S (d' :: ds') S' := fun K F R H vs T dv => by
  cases dv with
  | cons h1 t1 =>
    obtain ⟨F1, e1, T1, dv1⟩ := h K F R H _ T h1
    obtain ⟨F2, e2, T2, dv2⟩ := k K F1 R H _ T1 (t1.mono e1)
    exact ⟨F2, e1.trans e2, T2, .cons (dv1.mono e2) dv2⟩
theorem ghl_len {K : KW} {F : Hp} {vs : List V} {ds : List D} (h : DvL K F vs ds) : vs.length = ds.length := h.len
theorem gh_tup {ds ds' : List D} {S S' : Sto} (l : ds.length = ds'.length) (h : GhL ds S ds' S') : Gh (.tup ds) S (.tup ds') S' := fun K F R H v T dv => by
  cases dv with
  | tup a z b =>
    obtain ⟨F1, e1, T1, dv1⟩ := h K F R H _ T b
    exact ⟨F1, e1, T1, .tup (SqT.same e1 a) (by omega) dv1⟩
theorem gh_trans {d d1 d2 : D} {S S1 S2 : Sto} (h : Gh d S d1 S1) (k : Gh d1 S1 d2 S2) : Gh d S d2 S2 := fun K F R H v T dv => by
  obtain ⟨F1, e1, T1, dv1⟩ := h K F R H v T dv
  obtain ⟨F2, e2, T2, dv2⟩ := k K F1 R H v T1 dv1
  exact ⟨F2, e1.trans e2, T2, dv2⟩
theorem ret_gh {Q : KD} {d d' : D} {S S' : Sto} (h : Gh d S d' S') (q : Q d' S') : Ret Q d S := ⟨d', S', h, q⟩
theorem sub_del {S : Sto} {a : Addr} {c : Cell} (h : S a = none) : Sub S (put S a c) := (Sub.refl S).put h
/-- a list of one's own, made since, is data from now on -/
theorem ret_new {Q : KD} {p : Addr} {ds : List D} {S : Sto} (n : S p = none) (q : Q (.lst ds) S) : Ret Q (.own p) (put S p (.lst ds)) := ret_freeze q (sub_del n) put_same n

/-! ### ints -/
theorem rd_ints {S : Sto} {n : Nat} (l : List Int) : rd S (n + 2) (.lst (l.map D.int)) = some (.list (l.map PyData.int)) := by
  show (rdL (rd S (n + 1)) (l.map D.int)).map PyData.list = _
  rw [rdL_map (f := rd S (n + 1)) (g := D.int) (h := PyData.int) fun _ => rfl]
  rfl
theorem rd_own {S : Sto} {n : Nat} {a : Addr} {l : List D} (h : S a = some (.lst l)) : rd S (n + 1) (.own a) = rd S (n + 1) (.lst l) := by
  show (match S a with | some (.lst l) => (rdL (rd S n) l).map PyData.list | _ => none) = _
  rw [h]
  rfl
theorem eqv_ints : ∀ l m : List Int, PyData.eqvAll (l.map PyData.int) (m.map PyData.int) = decide (l = m)
  | [], [] => rfl
  | [], _ :: _ => rfl
  | _ :: _, [] => rfl
  | a :: l, b :: m => by
    simp only [List.map_cons, PyData.eqvAll, PyData.eqv, eqv_ints l m]
    by_cases h : a = b
    · subst h; simp
    · simp [h]
theorem eqv_listInts (l m : List Int) : PyData.eqv (.list (l.map PyData.int)) (.list (m.map PyData.int)) = decide (l = m) := by
  simp only [PyData.eqv]
  exact eqv_ints l m
theorem any_ints (l : List Int) (i : Int) : (l.map PyData.int).any (fun z => PyData.eqv z (.int i)) = decide (i ∈ l) := by
  induction l with
  | nil => rfl
  | cons a l ih =>
    simp only [List.map_cons, List.any_cons, ih, PyData.eqv]
    by_cases h : a = i
    · subst h; simp
    · simp [h, Ne.symm h]
theorem cdivp {i j : Int} (h : 0 < j) (k : j.natAbs.log2 < 9000) : CDivP i j := ⟨h, PyProof.noPylong_of_log2 k⟩
theorem log2_small {n k : Nat} (h : n < 2 ^ k) (hk : 0 < k) : n.log2 < k := by
  by_cases z : n = 0
  · subst z; simpa using hk
  · exact (Nat.log2_lt z).mpr h
theorem log2_le {m n k : Nat} (h : m ≤ n) (hn : n.log2 < k) : m.log2 < k := by
  by_cases z : m = 0
  · subst z; exact Nat.lt_of_le_of_lt (by simp) hn
  · exact (Nat.log2_lt z).mpr (Nat.lt_of_le_of_lt h ((Nat.log2_lt (by omega)).mp hn))
def rng (n : Nat) : List Int := (List.range n).map fun (i : Nat) => (i : Int)
theorem rngD0 (n : Nat) : rngD 0 n = (rng n).map D.int := by
  unfold rngD rng
  rw [List.map_map]
  refine List.map_congr_left fun i _ => ?_
  simp
theorem rng_length {n : Nat} : (rng n).length = n := by unfold rng; simp
theorem mem_rng {n : Nat} {i : Int} : i ∈ rng n ↔ 0 ≤ i ∧ i < n := by
  unfold rng
  rw [List.mem_map]
  constructor
  · rintro ⟨k, hk, rfl⟩
    rw [List.mem_range] at hk
    omega
  · rintro ⟨h1, h2⟩
    exact ⟨i.toNat, List.mem_range.mpr (by omega), by omega⟩
theorem rng_nodup {n : Nat} : (rng n).Nodup := by
  unfold rng
  refine List.Pairwise.map _ (fun a b h => ?_) List.nodup_range
  intro z
  exact h (by omega)
theorem rng_get {n i : Nat} (h : i < n) : (rng n)[i]? = some (i : Int) := by
  unfold rng
  rw [List.getElem?_map, List.getElem?_range h]
  rfl
theorem kit_int_bool {K : PySem.W.Frag} : PySem.W.kitOne K (.type "int") (.type "bool") = some false := by kernel_rfl
theorem kit_int_int {K : PySem.W.Frag} : PySem.W.kitOne K (.type "int") (.type "int") = some true := by kernel_rfl
theorem kit_list_list {K : PySem.W.Frag} : PySem.W.kitOne K (.type "list") (.type "list") = some true := by kernel_rfl
theorem kit_tup_tup {K : PySem.W.Frag} : PySem.W.kitOne K (.type "tuple") (.type "tuple") = some true := by kernel_rfl
/-- isinstance, one's type and the asked one known -/
theorem isi_ty {K : PySem.W.Frag} {ok : Addr → Prop} {d : D} {n : String} {t : Value} {b : Bool} {S : Sto} {Q : KD} (h : tyD S d = some t) (nr : ∀ C, t ≠ .ref C) (k : PySem.W.kitOne K t (.type n) = some b) (q : Q (.bl b) S) : aIsi K ok [d, .ty n] S Q :=
  ⟨d, .ty n, t, .type n, b, rfl, rfl, h, fun C e => absurd e (nr C), k, q⟩
end A

/-! ## a law's end -/
namespace A
open PySem PySem.Spec L2 PyProof.Rows
local macro_rules | `(tactic| walk_at "A.go") => `(tactic| simp only [aSeq, aNext, aSet, aVar, atV_s, onB_b, onI_i, onII_i, onL1_i, onL2_i, it_l, it_t, it_s, it_x, ix_l, ix_t, ix_s, add_i, add_x, eq_i, eq_x, eq_b, is_b, aC, aNil, aCons, aOp, aUn, aTup, aLst, aCB, aNot, aAnd, aOr, aTst, aIfE, aAndV, aOrV, aNotV, aChn, aDrop, aRet, aRetN, aIf, agName, agNil, agCons, agTup, aAsg, aPar, aAug, aFor, aRng1, aRng2, aIter, aLc, aYes,
  aCl, aMt, aMk, aFl, aFst, aNeg, aI2, aI20, aLe, aLt, aGt, aGe, aSub, aMod, aMul, aFdv, aPow, aXor, aShl, aShr, agSub, aoN, aoS, aSl, aRev, aLen, aList, aTupOf, aLRg1, aLRg2, aAbs, aI2N, aMax, aMin, aDm, aAll, aAny, aBM, aApp, aPopAt, aPop, aClear, aRevM, aExt, aRepr, aClD, aLnSt, aIAdd, aBreak, aCont,
  aEnd, startA, List.map_cons, List.map_nil, List.cons_append, List.nil_append, List.length_cons, List.length_nil, List.replicate, List.getElem?_cons_zero, List.getElem?_cons_succ, List.set_cons_zero, List.set_cons_succ, Nat.reduceAdd, Nat.reduceSub, Nat.succ_eq_add_one, Int.reduceAdd, Int.reduceMul,
  reduceIte, Bool.false_eq_true, Bool.not_true, Bool.not_false, ite_true, ite_false])

/-- the numbers of a script are not too wide -/
def Bits (ns : List Int) : Prop := ∀ n ∈ ns, n.natAbs.log2 < 2 ^ 20 + 64
def noS : Sto := fun _ => none
section
variable {P : Program} {w : World} {K : PySem.W.Frag} {mg mb : Str → Option Value} {k : Nat} {g a : Addr} {fd : FuncData} {x : Str} {sp : SpA} {z : Shared} {us : List Value} {ns : List Int}
theorem only_dict {H : Hp} (oa : ∀ b, H b ≠ none → b = a) (ga : z.heap.get? a = some { cls := .type "list", data := .seq us.toArray }) {b : Addr} {m : Str → Option Value} (q : z.heap.Ns b m) : (hidT z.heap H).Ns b m := by
  obtain ⟨o, es, ep, e1, e2, e3⟩ := q
  refine ⟨o, es, ep, hidT_get e1 ?_, e2, e3⟩
  cases hb : H b with
  | none => rfl
  | some u =>
    have := oa b (by rw [hb]; exact nofun)
    subst this
    rw [ga] at e1
    cases e1
    cases (show Data.seq us.toArray _ = Data.dict es ep from e2)
/-- the law's def at the script, H telling no more than the script -/
theorem end_core (KX : K.In z.heap) (hg : z.heap.Ns mainGlobals mg) (hb : z.heap.Ns builtinsNs mb) (hbb : ∀ x : Str, x ≠ "__name__" → mb x = bootBuiltins x) (nl : z.heap.NoLimit) (gz : z.gens = #[])
    (ga : z.heap.get? a = some { cls := .type "list", data := .seq us.toArray }) (hl : ns.length ≤ sizeLine) (hr : Room k callerA)
    (F : ∀ base : Heap, K.In base → base.Ns mainGlobals mg → FnA P w K mg base k g fd [x] sp) (bi : ∀ (s : Shared) (u : Value), BindsTo s fd ⟨[u], []⟩ [(x, u)])
    (q : sp [.scr ns] noS (fun d _ => d = .bl true) noX) {H : Hp} (hO : Only H) (hS : SqL K H a (ns.map V.int)) (ok : HOk P w H z.heap) (oa : ∀ b, H b ≠ none → b = a) (ka : H a ≠ none → K.lookup a = none) :
    codeAny (model P w) callerA (.call (.ref g) ⟨[.ref a], []⟩) (fun r t => r = .ok (.ret (.bool true)) ∧ OldK z.heap t.heap ∧ t.os = z.os ∧ AllBare t.gens) z := by
  have hK : K.In (hidT z.heap H) := fun b o e => by
    refine hidT_get (KX b o e) ?_
    cases hb : H b with
    | none => rfl
    | some u =>
      have := oa b (by rw [hb]; exact nofun)
      subst this
      rw [ka (by rw [hb]; exact nofun)] at e
      cases e
  have gG := only_dict oa ga hg
  have md : Mod K mg (hidT z.heap H) := ⟨hK, gG, ⟨mb, only_dict oa ga hb, hbb⟩, by
    obtain ⟨mc, h1, h2⟩ := nl
    exact ⟨mc, only_dict oa ga h1, h2⟩⟩
  have en : Env0 P w K mg (hidT z.heap H) callerA [] z H := ⟨rfl, md, fun _ _ h => of_hidT h, Nat.le_of_eq (hidT_size _ _), trivial, fun _ h => (List.not_mem_nil h).elim, ok, .of_eq gz⟩
  have st : Sta ⟨K, w⟩ H noS noS H := ⟨Same.refl _, (fun _ _ h => by cases h), (fun _ _ h => by cases h)⟩
  have sq : csp ⟨K, w⟩ sp [.ref a] H (fun v _ => v = .bl true) (fun _ _ _ => False) :=
    ⟨[.scr ns], H, noS, noS, _, noX, .cons (.scr hS hl) .nil, st, q, fun v H' F' S' d _ _ dv e => by subst e; cases dv; rfl, fun _ _ _ _ _ _ _ _ _ h => h.elim⟩
  refine codeAny_mono ((F _ hK gG).g.run callerA [] z H ⟨[.ref a], []⟩ [.ref a] [.ref a] _ _ ⟨hr, rfl⟩ en (bi z (.ref a)) (show Vals [V.ref a] [Value.ref a] from .cons rfl .nil) sq) fun r t h => ?_
  match r, h with
  | .error e, h =>
    obtain ⟨_, _, _, _, _, _, _, _, _, _, _, _, no⟩ := h
    exact no.elim
  | .ok .next, h => exact False.elim h
  | .ok .brk, h => exact False.elim h
  | .ok .cont, h => exact False.elim h
  | .ok (.ret u), h =>
    obtain ⟨v, H1, ho, hbare, un, ok1, ru, rfl⟩ := h
    obtain rfl : u = Value.bool true := ru
    refine ⟨rfl, OldK.of_keep fun b o hbo => ?_, ho, hbare⟩
    rcases hO b with n | ⟨ob, xs, f⟩
    · exact un.keep b o hbo n (fun h => (List.not_mem_nil h).elim) (by simp)
    · obtain ⟨h1, _⟩ := ok b _ f
      obtain ⟨h2, _⟩ := ok1 b _ (un.frzs b ob _ f)
      rw [hbo] at h1
      cases h1
      exact h2
theorem law_callG (KX : K.In z.heap) (hg : z.heap.Ns mainGlobals mg) (hb : z.heap.Ns builtinsNs mb) (hbb : ∀ x : Str, x ≠ "__name__" → mb x = bootBuiltins x) (nl : z.heap.NoLimit) (gz : z.gens = #[])
    (ga : z.heap.get? a = some { cls := .type "list", data := .seq us.toArray }) (hi : IntsAre us ns) (hl : ns.length ≤ sizeLine) (hr : Room k callerA)
    (F : ∀ base : Heap, K.In base → base.Ns mainGlobals mg → FnA P w K mg base k g fd [x] sp) (bi : ∀ (s : Shared) (u : Value), BindsTo s fd ⟨[u], []⟩ [(x, u)])
    (q : sp [.scr ns] noS (fun d _ => d = .bl true) noX) :
    codeAny (model P w) callerA (.call (.ref g) ⟨[.ref a], []⟩) (fun r t => r = .ok (.ret (.bool true)) ∧ OldK z.heap t.heap ∧ t.os = z.os ∧ AllBare t.gens) z := by
  have rv := vals_ints hi
  have core := @end_core P w K mg mb k g a fd x sp z us ns KX hg hb hbb nl gz ga hl hr F bi q
  cases lk : K.lookup a with
  | some o =>
    have h1 := KX a o lk
    rw [ga] at h1
    cases h1
    exact core (H := fun _ => none) (fun _ => .inl rfl) (.inr ⟨_, us.toArray, _, lk, rfl, rfl, rfl, by rw [List.size_toArray, hi.length]; exact hl, by simpa using rv⟩) (fun _ _ h => by cases h) (fun _ h => (h rfl).elim) fun h => (h rfl).elim
  | none =>
    have yes : (fun b => if b = a then some (HO.frz { cls := .type "list", data := .seq us.toArray } (.lst (ns.map V.int))) else none) a = some (.frz { cls := .type "list", data := .seq us.toArray } (.lst (ns.map V.int))) := if_pos rfl
    refine core (H := fun b => if b = a then some (.frz { cls := .type "list", data := .seq us.toArray } (.lst (ns.map V.int))) else none) (fun b => ?_) (.inl (.inr ⟨_, yes⟩)) (fun b u h => ?_) (fun b h => ?_) fun _ => lk
    · by_cases e : b = a
      · exact .inr ⟨{ cls := .type "list", data := .seq us.toArray }, ns.map V.int, by rw [e]; exact yes⟩
      · exact .inl (if_neg e)
    · by_cases e : b = a
      · subst e
        have h2 := yes.symm.trans h
        cases h2
        exact ⟨ga, by rw [List.length_map]; exact hl, us, _, rv, ga⟩
      · have h2 := (if_neg e).symm.trans h
        cases h2
    · by_cases e : b = a
      · exact e
      · exact (h (if_neg e)).elim
end
/-- a law: the written part, the function object, the promise over every base -/
theorem walk_G {l : PySem.W.OpenLaw} {n k : Nat} {q : Program} {loose : List Str} {XP : (Str → Option Value) → Heap → Prop} {YP : World → Heap → Prop} {d : DefRec} {x : Str}
    (hn : l.most = some n) (hn2 : n ≤ sizeLine) (hdf : d.params.defaults = []) (hr : Room k callerA)
    (F : ∀ (w : World) (mg : Str → Option Value) (g : Addr) (h : Heap), YP w h → h.Ns mainGlobals mg → mg d.name = some (.ref g) → ∃ (K : PySem.W.Frag) (fd : FuncData) (sp : SpA), K.In h ∧ (∀ (s : Shared) (u : Value), BindsTo s fd ⟨[u], []⟩ [(x, u)]) ∧
      (∀ ns : List Int, ns.length ≤ n → Bits ns → sp [.scr ns] noS (fun d _ => d = .bl true) noX) ∧ ∀ base : Heap, K.In base → base.Ns mainGlobals mg → FnA l.prog w K mg base k g fd [x] sp) :
    PySem.W.WalkO q loose XP YP l.row.toRowW d [] (fun f vs => PySem.call f vs) := by
  refine Att.attach_callB hn hdf fun w s0 z mg mb g o pm cd doc a us ns G Y h1 h2 h3 h4 ga hi hlen hbits gz => ?_
  obtain ⟨K, fd, sp, KX, bi, hsp, hF⟩ := F w mg g _ Y G.T.g h4
  refine law_callG KX G.T.g G.T.b G.T.builtins G.T.nolimit gz ga hi (Nat.le_trans hlen hn2) hr hF bi (hsp ns hlen fun i hi => ?_)
  have hb := hbits i hi
  unfold Builtin.Int.intBits at hb
  split at hb
  · rename_i e
    have : i = 0 := by simpa using e
    subst this
    rw [show (0 : Int).natAbs.log2 = 0 by decide]
    exact Nat.succ_pos _
  · have e : (2 : Nat) ^ 20 = 1048576 := by decide
    rw [e]
    omega
end A

/-! ## dicts -/
namespace A
open PySem PySem.Spec L2 PyProof.Rows
local macro_rules | `(tactic| walk_at "A.go") => `(tactic| simp only [aSeq, aNext, aSet, aVar, atV_s, onB_b, onI_i, onII_i, onL1_i, onL2_i, it_l, it_t, it_s, it_x, ix_l, ix_t, ix_s, add_i, add_x, eq_i, eq_x, eq_b, is_b, aC, aNil, aCons, aOp, aUn, aTup, aLst, aCB, aNot, aAnd, aOr, aTst, aIfE, aAndV, aOrV, aNotV, aChn, aDrop, aRet, aRetN, aIf, agName, agNil, agCons, agTup, aAsg, aPar, aAug, aFor, aRng1, aRng2, aIter, aLc, aYes,
  aCl, aMt, aMk, aFl, aFst, aNeg, aI2, aI20, aLe, aLt, aGt, aGe, aSub, aMod, aMul, aFdv, aPow, aXor, aShl, aShr, agSub, aoN, aoS, aSl, aRev, aLen, aList, aTupOf, aLRg1, aLRg2, aAbs, aI2N, aMax, aMin, aDm, aAll, aAny, aBM, aApp, aPopAt, aPop, aClear, aRevM, aExt, aRepr, aClD, aLnSt, aIAdd, aBreak, aCont,
  aEnd, startA, List.map_cons, List.map_nil, List.cons_append, List.nil_append, List.length_cons, List.length_nil, List.replicate, List.getElem?_cons_zero, List.getElem?_cons_succ, List.set_cons_zero, List.set_cons_succ, Nat.reduceAdd, Nat.reduceSub, Nat.succ_eq_add_one, Int.reduceAdd, Int.reduceMul,
  reduceIte, Bool.false_eq_true, Bool.not_true, Bool.not_false, ite_true, ite_false])
def valA (m : List (Key × D)) (k : Key) : Option D := (m.find? fun p => decide (p.1 = k)).map (·.2)
def putKA (m : List (Key × D)) (k : Key) (d : D) : List (Key × D) := if (m.any fun p => decide (p.1 = k)) = true then m.map (fun p => if p.1 = k then (p.1, d) else p) else m ++ [(k, d)]
section
variable {K : KW} {F H : Hp} {S R : Sto}
theorem DvP.val {k : Key} : ∀ {l : List (Key × V)} {m : List (Key × D)}, DvP K F l m → (valA m k = Option.none ∧ valV l k = Option.none) ∨ ∃ d v, valA m k = Option.some d ∧ valV l k = Option.some v ∧ Dv K F v d
  | _, _, .nil => .inl ⟨rfl, rfl⟩
  | (k1, v) :: l, (k2, d) :: m, .cons h t => by
    have e : k1 = k2 := h.1
    subst e
    unfold valA valV
    rw [List.find?_cons, List.find?_cons]
    by_cases q : k1 = k
    · simp only [q, decide_true]
      exact .inr ⟨d, v, rfl, rfl, h.2⟩
    · simp only [q, decide_false]
      exact DvP.val t
theorem DvP.any {k : Key} : ∀ {l : List (Key × V)} {m : List (Key × D)}, DvP K F l m → (l.any fun p => decide (p.1 = k)) = m.any fun p => decide (p.1 = k)
  | _, _, .nil => rfl
  | (k1, v) :: l, (k2, d) :: m, .cons h t => by
    have e : k1 = k2 := h.1
    subst e
    rw [List.any_cons, List.any_cons, DvP.any t]
theorem DvP.mapK {k : Key} {v : V} {d : D} (q : Dv K F v d) : ∀ {l : List (Key × V)} {m : List (Key × D)}, DvP K F l m → DvP K F (l.map fun p => if p.1 = k then (p.1, v) else p) (m.map fun p => if p.1 = k then (p.1, d) else p)
  | _, _, .nil => .nil
  | (k1, v1) :: l, (k2, d1) :: m, .cons h t => by
    have e : k1 = k2 := h.1
    subst e
    rw [List.map_cons, List.map_cons]
    by_cases z : k1 = k
    · simp only [z, if_pos]
      exact .cons ⟨rfl, q⟩ (DvP.mapK q t)
    · simp only [z, if_false]
      exact .cons h (DvP.mapK q t)
theorem DvP.snoc {κ : Type} {l : List (κ × V)} {m : List (κ × D)} {k : κ} {v : V} {d : D} (q : Dv K F v d) : DvP K F l m → DvP K F (l ++ [(k, v)]) (m ++ [(k, d)])
  | .nil => .cons ⟨rfl, q⟩ .nil
  | .cons h t => .cons h (DvP.snoc q t)
theorem DvP.putK {k : Key} {v : V} {d : D} {l : List (Key × V)} {m : List (Key × D)} (h : DvP K F l m) (q : Dv K F v d) : DvP K F (L2.putK l k v) (putKA m k d) := by
  unfold L2.putK putKA
  rw [h.any]
  split
  · exact h.mapK q
  · exact h.snoc q
theorem DvP.len {κ : Type} : ∀ {l : List (κ × V)} {m : List (κ × D)}, DvP K F l m → l.length = m.length
  | _, _, .nil => rfl
  | _, _, .cons _ t => congrArg Nat.succ (DvP.len t)
theorem putKA_len (m : List (Key × D)) (k : Key) (d : D) : (putKA m k d).length ≤ m.length + 1 := by
  unfold putKA
  split
  · rw [List.length_map]; omega
  · rw [List.length_append]; exact Nat.le_refl _
def keyD : D → Option Key
  | .int i => some (.inl i)
  | .str x => some (.inr x)
  | _ => none
def dKey : Key → D
  | .inl i => .int i
  | .inr x => .str x
theorem keyD_ok {v : V} {d : D} {k : Key} (h : Dv K F v d) (e : keyD d = some k) : v = kV k := by
  cases h with
  | int i => cases e; rfl
  | str x => cases e; rfl
  | _ => cases e
theorem dKey_ok {k : Key} : Dv K F (kV k) (dKey k) := by
  cases k with
  | inl i => exact .int i
  | inr x => exact .str x
/-- one's own dict -/
def dctOf (S : Sto) : D → Option (List (Key × D))
  | .own a => match S a with | some (.dct m) => some m | _ => none
  | _ => none
theorem dct_ok {v : V} {d : D} {m : List (Key × D)} (T : Sta K F S R H) (h : Dv K F v d) (e : dctOf S d = some m) : ∃ a l, d = .own a ∧ v = .ref a ∧ S a = some (.dct m) ∧ H a = some (.dK l) ∧ DvP K F l m ∧ m.length ≤ sizeLine := by
  cases h with
  | own a =>
    have e' : (match S a with | some (.dct m) => some m | _ => none) = some m := e
    split at e'
    · rename_i m' hS
      cases e'
      obtain ⟨_, z, l, h1, h2⟩ := T.own _ _ hS
      exact ⟨a, l, rfl, rfl, hS, h1, h2, z⟩
    · cases e'
  | _ => cases e
theorem dctOf_own {a : Addr} {m : List (Key × D)} (h : S a = some (.dct m)) : dctOf S (.own a) = some m := by
  unfold dctOf
  simp only [h]
end
section
variable {X : Cx} {W : WX} {o i e : Expr} {to ti te : TE} {ao ai ae : AE} {pos pos' : Pos} {t : TA} {ar : AA}
theorem room1 {k : Nat} (hr : RoomG k X.A) : X.A.units + 1 < cLine := by have := hr.room.un; omega
/-- {} -/
def aDNew : AE := fun _ S Q _ => ∀ a, S a = none → Q (.own a) (put S a (.dct []))
theorem ea_dnew : EA X W (.Dict [] [] pos) tDNewK aDNew := ⟨pe_dnewK, fun σ H F S R ρ Q E P T en wo q po => fun p hp =>
  po (.ref p) _ F _ (.own p) (Same.refl _) (T.owned (c := .dct []) hp ⟨Nat.zero_le _, [], upd_same, .nil⟩) (.own p) (q p (T.free hp).2.1)⟩
/-- d[k] -/
def aDIx (ao ai : AE) : AE := fun ρ S Q E => ao ρ S (fun d S1 => ai ρ S1 (fun e S2 => ∃ m k x, dctOf S2 d = some m ∧ keyD e = some k ∧ valA m k = some x ∧ Q x S2) E) E
theorem ea_dix {k : Nat} (hr : RoomG k X.A) (ho : EA X W o to ao) (hi : EA X W i ti ai) (hs : NoSl i := by intro _ _; rfl) : EA X W (.Subscript o i pos) (tDGet to ti) (aDIx ao ai) := by
  refine ⟨pe_dget (room1 hr) ho.pe hi.pe hs, fun σ H F S R ρ Q E P T en wo q po => ho.re σ H F S R ρ _ E _ T en wo q fun v H1 F1 S1 d e1 T1 dv q1 => ?_⟩
  refine hi.re σ H1 F1 S1 R ρ _ E _ T1 (en.mono e1) (wo.mono e1) q1 fun u H2 F2 S2 e e2 T2 du q2 => ?_
  obtain ⟨m, k, x, h1, h2, h3, q3⟩ := q2
  obtain ⟨a, l, rfl, rfl, hS, hH, hp, _⟩ := dct_ok T2 (dv.mono e2) h1
  have ek := keyD_ok du h2
  subst ek
  rcases hp.val (k := k) with ⟨z, _⟩ | ⟨d, w', z1, z2, z3⟩
  · rw [h3] at z; cases z
  · rw [h3] at z1
    cases z1
    exact ⟨a, w', rfl, by have := DGet.k (k := k) hH; rwa [z2] at this, po w' H2 F2 S2 x (e1.trans e2) T2 z3 q3⟩
/-- k in d -/
def aDIn (neg : Bool) (ai ao : AE) : AE := fun ρ S Q E => ai ρ S (fun e S1 => ao ρ S1 (fun d S2 => ∃ m k, dctOf S2 d = some m ∧ keyD e = some k ∧ Q (.bl (if neg then !(valA m k).isSome else (valA m k).isSome)) S2) E) E
theorem re_din {neg : Bool} (hi : RE X.kw W ti ai) (ho : RE X.kw W to ao) : RE X.kw W (fun σ H Q => ti σ H fun y H1 => to σ H1 fun x H2 => ∃ a o, x = .ref a ∧ DGet H2 a y o ∧ Q (.bl (if neg then !o.isSome else o.isSome)) H2) (aDIn neg ai ao) := by
  refine fun σ H F S R ρ Q E P T en wo q po => hi σ H F S R ρ _ E _ T en wo q fun v H1 F1 S1 d e1 T1 dv q1 => ?_
  refine ho σ H1 F1 S1 R ρ _ E _ T1 (en.mono e1) (wo.mono e1) q1 fun u H2 F2 S2 e e2 T2 du q2 => ?_
  obtain ⟨m, k, h1, h2, q3⟩ := q2
  obtain ⟨a, l, rfl, rfl, hS, hH, hp, _⟩ := dct_ok T2 du h1
  have ek := keyD_ok (dv.mono e2) h2
  subst ek
  refine ⟨a, _, rfl, DGet.k (k := k) hH, ?_⟩
  have es : (valV l k).isSome = (valA m k).isSome := by
    rcases hp.val (k := k) with ⟨z1, z2⟩ | ⟨d, w', z1, z2, _⟩
    · rw [z1, z2]; rfl
    · rw [z1, z2]; rfl
  rw [es]
  exact po _ H2 F2 S2 _ (e1.trans e2) T2 (.bl _) q3
theorem ta_din {k : Nat} (hr : RoomG k X.A) (hi : EA X W i ti ai) (ho : EA X W o to ao) (hm : behindInMarks .In o = false := by first | rfl | exact nomark _) : TstA X W (.Compare i [.In] [o] pos) (tTest (tDIn ti to)) (aTst (aDIn false ai ao)) :=
  ⟨pt_cmp (pc_din (room1 hr) hi.pe ho.pe) hm, fun σ H F S R ρ Q E P T en wo q po => re_din (neg := false) hi.re ho.re σ H F S R ρ _ E _ T en wo q (re_bl po)⟩
theorem ta_dnotin {k : Nat} (hr : RoomG k X.A) (hi : EA X W i ti ai) (ho : EA X W o to ao) (hm : behindInMarks .NotIn o = false := by first | rfl | exact nomark _) : TstA X W (.Compare i [.NotIn] [o] pos) (tTest (tDNotIn ti to)) (aTst (aDIn true ai ao)) :=
  ⟨pt_cmp (pc_dnotin (room1 hr) hi.pe ho.pe) hm, fun σ H F S R ρ Q E P T en wo q po => re_din (neg := true) hi.re ho.re σ H F S R ρ _ E _ T en wo q (re_bl po)⟩
/-- d[k] = v -/
def aDPut (ao ai av : AE) : AS := fun D ρ S => av ρ S (fun v S1 => ao ρ S1 (fun d S2 => ai ρ S2 (fun e S3 => ∃ a m k, d = .own a ∧ S3 a = some (.dct m) ∧ keyD e = some k ∧ m.length < sizeLine ∧ D.nx ρ (put S3 a (.dct (putKA m k v)))) (D.xx ρ)) (D.xx ρ)) (D.xx ρ)
theorem s_dput {k : Nat} {tv : TE} {av : AE} {value : Expr} (hr : RoomG k X.A) (hv : EA X W value tv av) (ho : EA X W o to ao) (hi : EA X W i ti ai) (hs : swapsWith value (some (.Subscript o i pos')) pos.line X.env = pure false := by rfl) :
    SA X W (.Assign [.Subscript o i pos'] value pos) (sDPut to ti tv) (aDPut ao ai av) := by
  refine ⟨ps_dput (room1 hr) ho.pe hi.pe hv.pe hs, fun σ H F S R ρ Da Dc T en wo dn q => hv.re σ H F S R ρ _ _ _ T en (wo.at_ en) q fun v H1 F1 S1 d e1 T1 dv q1 => ?_⟩
  refine ho.re σ H1 F1 S1 R ρ _ _ _ T1 (en.mono e1) ((wo.at_ en).mono e1) q1 fun x H2 F2 S2 dx e2 T2 dvx q2 => ?_
  have e12 := e1.trans e2
  refine hi.re σ H2 F2 S2 R ρ _ _ _ T2 (en.mono e12) ((wo.at_ en).mono e12) q2 fun y H3 F3 S3 dy e3 T3 dvy q3 => ?_
  obtain ⟨a, m, k, rfl, hS, hk, hz, q4⟩ := q3
  cases dvx
  obtain ⟨_, _, l, hH, hp⟩ := T3.own _ _ hS
  have ek := keyD_ok dvy hk
  subst ek
  refine ⟨a, _, rfl, DPut.k hH (by rw [hp.len]; exact hz), ?_⟩
  refine dn.nx σ _ F3 _ ρ (e12.trans e3) (T3.write (c' := .dct (putKA m k d)) hS ⟨by have := putKA_len m k d; omega, _, upd_same, hp.putK (dv.mono (e2.trans e3))⟩) (en.mono (e12.trans e3)) q4
def aLenD : ON := fun ds S Q => ∃ d m, ds = [d] ∧ dctOf S d = some m ∧ Q (.int (m.length : Nat)) S
theorem c_lenD : CallA X (.builtin "len") (fun xs H Q => ∃ a kvs, xs = [V.ref a] ∧ H a = some (.dK kvs) ∧ Q (.int kvs.length) H) aLenD := by
  refine ⟨call_lenD, ?_⟩
  rintro xs ds H F S R Q P T dvs ⟨d, m, rfl, h1, q⟩ po
  cases dvs with
  | cons h t =>
    cases t
    obtain ⟨a, l, rfl, rfl, hS, hH, hp, _⟩ := dct_ok T h h1
    exact ⟨a, l, rfl, hH, by rw [hp.len]; exact po _ H F S _ (Same.refl _) T (.int _) q⟩
def aListD : ON := fun ds S Q => ∃ d m, ds = [d] ∧ dctOf S d = some m ∧ NewL (m.map fun p => dKey p.1) S Q
theorem dvl_keys {K : KW} {F : Hp} : ∀ {l : List (Key × V)} {m : List (Key × D)}, DvP K F l m → DvL K F (l.map fun p => kV p.1) (m.map fun p => dKey p.1)
  | _, _, .nil => .nil
  | (k1, v) :: l, (k2, d) :: m, .cons h t => by
    have e : k1 = k2 := h.1
    subst e
    exact .cons dKey_ok (dvl_keys t)
theorem c_listD (hc : X.calm = true) : CallA X (.type "list") rListD aListD := by
  refine ⟨call_list_dK hc, ?_⟩
  rintro xs ds H F S R Q P T dvs ⟨d, m, rfl, h1, q⟩ po
  cases dvs with
  | cons h t =>
    cases t
    obtain ⟨a, l, rfl, rfl, hS, hH, hp, hz⟩ := dct_ok T h h1
    exact ⟨a, l, rfl, hH, newL_ok T (dvl_keys hp) (by rw [List.length_map]; exact hz) q po⟩
/-- x.bit_length() -/
def aBits (ao : AE) : AE := fun ρ S Q E => ao ρ S (onI fun i S1 => Q (.int (Builtin.Int.intBits i : Nat)) S1) E
theorem ea_bits {apos : Pos} (ho : EA X W o to ao) (hbase : attributeBase o "bit_length" X.env (eval o X.env) = eval o X.env := by rfl) (hline : (apos.endLine == pos.line) = true := by rfl) :
    EA X W (.Call (.Attribute o "bit_length" apos) [] [] pos) (tBits to) (aBits ao) := by
  refine ⟨pe_bits ho.pe hbase hline, fun σ H F S R ρ Q E P T en wo q po => ho.re σ H F S R ρ _ E _ T en wo q fun v H1 F1 S1 d e1 T1 dv q1 => ?_⟩
  cases dv with
  | int i => exact ⟨i, rfl, po _ H1 F1 S1 _ e1 T1 (.int _) q1⟩
  | _ => exact (show False from q1).elim
/-- {k: c}, both written constants -/
def aDsp1 (k : Key) (d : D) : AE := fun _ S Q _ => ∀ a, S a = none → Q (.own a) (put S a (.dct [(k, d)]))
theorem ea_dsp1 {ek ev : Expr} {k : Key} {c : V} {d : D} (hk : PE X ek (tC (kV k))) (hv : PE X ev (tC c)) (hd : ∀ F, Dv X.kw F c d) : EA X W (.Dict [some ek] [ev] pos) (tDisp [(tC (kV k), tC c)]) (aDsp1 k d) := by
  refine ⟨pe_disp (pps_cons hk hv pps_nil) rfl rfl (List.cons_ne_nil _ _) (show (1 : Nat) ≤ 15 by decide), fun σ H F S R ρ Q E P T en wo q po => fun p hp => ?_⟩
  refine ⟨upd_same, [(k, c)], rfl, show (1 : Nat) ≤ 15 by decide, ?_⟩
  have e : L2.mergeK [] [(k, c)] = [(k, c)] := rfl
  rw [e]
  have e2 : upd (upd H p (.dK [])) p (.dK [(k, c)]) = upd H p (.dK [(k, c)]) := by
    funext b
    by_cases z : b = p
    · subst z; rw [upd_same, upd_same]
    · rw [upd_ne z, upd_ne z, upd_ne z]
  rw [e2]
  exact po (.ref p) _ F _ (.own p) (Same.refl _) (T.owned (c := .dct [(k, d)]) hp ⟨by rw [sizeLine_eq]; exact show (1 : Nat) ≤ 16777216 by decide, _, upd_same, .cons ⟨rfl, hd F⟩ .nil⟩) (.own p) (q p (T.free hp).2.1)
end
end A

namespace A
open PySem PySem.Spec L2 PyProof.Rows
local macro_rules | `(tactic| walk_at "A.go") => `(tactic| simp only [aSeq, aNext, aSet, aVar, atV_s, onB_b, onI_i, onII_i, onL1_i, onL2_i, it_l, it_t, it_s, it_x, ix_l, ix_t, ix_s, add_i, add_x, eq_i, eq_x, eq_b, is_b, aC, aNil, aCons, aOp, aUn, aTup, aLst, aCB, aNot, aAnd, aOr, aTst, aIfE, aAndV, aOrV, aNotV, aChn, aDrop, aRet, aRetN, aIf, agName, agNil, agCons, agTup, aAsg, aPar, aAug, aFor, aRng1, aRng2, aIter, aLc, aYes,
  aCl, aMt, aMk, aFl, aFst, aNeg, aI2, aI20, aLe, aLt, aGt, aGe, aSub, aMod, aMul, aFdv, aPow, aXor, aShl, aShr, agSub, aoN, aoS, aSl, aRev, aLen, aList, aTupOf, aLRg1, aLRg2, aAbs, aI2N, aMax, aMin, aDm, aAll, aAny, aBM, aApp, aPopAt, aPop, aClear, aRevM, aExt, aRepr, aClD, aLnSt, aIAdd, aBreak, aCont,
  aEnd, startA, List.map_cons, List.map_nil, List.cons_append, List.nil_append, List.length_cons, List.length_nil, List.replicate, List.getElem?_cons_zero, List.getElem?_cons_succ, List.set_cons_zero, List.set_cons_succ, Nat.reduceAdd, Nat.reduceSub, Nat.succ_eq_add_one, Int.reduceAdd, Int.reduceMul,
  reduceIte, Bool.false_eq_true, Bool.not_true, Bool.not_false, ite_true, ite_false])
/-! ### draws -/
def sp_take (K : PySem.W.Frag) : SpA := fun ds S Q E => ∃ p m, ds = [.own p, .int m] ∧ S p = some .pot ∧ 0 < m ∧ m < 2147483648 ∧ ∀ d, 0 ≤ d → d < m → Q (.int d) S
theorem len_take (K : PySem.W.Frag) : ∀ ds S Q E, sp_take K ds S Q E → ds.length = 2 := by rintro ds S Q E ⟨p, m, rfl, _⟩; rfl
def a_take (K : PySem.W.Frag) : AS := (aSeq (aIf (aTst (aOp aGt (aOp aIx (aVar 0) (aC (.int 0))) (aC (.int 0)))) (aSeq (aAsg (aCB aDm (aCons (aOp aIx (aVar 0) (aC (.int 0))) (aCons (aVar 1) aNil))) (agTup 2 (agCons (agSub (aVar 0) (aC (.int 0))) (agCons (agName 2) agNil))))
 (aRet (aVar 2))) aNext)
 (aSeq (aAsg (aOp aMod (aOp aAdd (aOp aMul (aOp aIx (aVar 0) (aC (.int 1))) (aC (.int 48271))) (aC (.int 10007))) (aC (.int 2147483587))) (agSub (aVar 0) (aC (.int 1))))
 (aRet (aOp aMod (aOp aFdv (aOp aMod (aOp aMul (aOp aIx (aVar 0) (aC (.int 1))) (aOp aIx (aVar 0) (aC (.int 1)))) (aC (.int 2147483563))) (aC (.int 3))) (aVar 1)))))
theorem law_take (K : PySem.W.Frag) : ∀ ds S Q E, sp_take K ds S Q E → a_take K (aEnd Q E) (startA ["_law_pot_here", "_law_many", "_law_digit"] ds) S := by
  rintro ds S Q E ⟨p, m, rfl, hp, m0, m1, q⟩
  unfold a_take
  walk_at "A.go"
  refine ix_pot hp fun x y h => ⟨x, rfl, ?_⟩
  walk_at "A.go"
  split
  · rename_i hx
    refine ix_pot hp fun x y h => ⟨x, rfl, ?_⟩
    walk_at "A.go"
    have hm : m.natAbs.log2 < 9000 := Nat.lt_of_lt_of_le (log2_small (k := 31) (by omega) (by decide)) (by decide)
    have h1 := Int.emod_nonneg x (show m ≠ 0 by omega)
    have h2 := Int.emod_lt_of_pos x m0
    have h0 := Int.ediv_nonneg h.1 (Int.le_of_lt m0)
    refine ⟨cdivp m0 hm, _, rfl, rfl, put_pot0 hp h0 ?_ ⟨rfl, ret (q _ h1 h2)⟩⟩
    refine log2_le (n := x.natAbs) ?_ h.2.1
    have h3 : x / m ≤ x := Int.ediv_le_self m h.1
    have h4 := h.1
    omega
  · refine ix_pot hp fun x y h => ⟨y, rfl, ?_⟩
    walk_at "A.go"
    obtain ⟨h1, h2, h3, h4⟩ := h
    have b1 := Int.emod_nonneg (y * 48271 + 10007) (show (2147483587 : Int) ≠ 0 by decide)
    have b2 := Int.emod_lt_of_pos (y * 48271 + 10007) (show (0 : Int) < 2147483587 by decide)
    refine ⟨.inr (by decide), by decide, put_pot1 hp b1 (by omega) (ix_pot hp fun x' y' h' => ⟨y', rfl, ix_pot hp fun x'' y'' h'' => ⟨y'', rfl, ?_⟩⟩)⟩
    walk_at "A.go"
    refine ⟨.inl ?_, by decide, ⟨by decide, by decide⟩, m0, ret (q _ (Int.emod_nonneg _ (by omega)) (Int.emod_lt_of_pos _ m0))⟩
    obtain ⟨_, _, g1, g2⟩ := h'
    exact ⟨by omega, by omega⟩
def sp_pot (K : PySem.W.Frag) : SpA := fun ds S Q E => ∃ ns k, ds = [.scr ns, .int k] ∧ 0 ≤ k ∧ k ≤ 100 ∧ Bits ns ∧ ∀ a, S a = none → Q (.own a) (put S a .pot)
theorem len_pot (K : PySem.W.Frag) : ∀ ds S Q E, sp_pot K ds S Q E → ds.length = 2 := by rintro ds S Q E ⟨p, m, rfl, _⟩; rfl
def a_pot (K : PySem.W.Frag) : AS := (aSeq (aSet 2 (aC (.int 0)))
 (aSeq (aIf (aTst (aOp aLt (aVar 1) (aCB aLen (aCons (aVar 0) aNil)))) (aSet 2 (aCB aAbs (aCons (aOp aIx (aVar 0) (aVar 1)) aNil))) aNext)
 (aRet (aLst (aCons (aCB aMax (aCons (aC (.int 0)) (aCons (aOp aSub (aVar 2) (aOp aPow (aC (.int 10)) (aC (.int 18)))) aNil))) (aCons (aOp aAdd (aOp aMod (aOp aPow (aOp aAdd (aOp aAdd (aOp aMod (aVar 2) (aC (.int 2147483549))) (aOp aMul (aC (.int 97)) (aVar 1))) (aC (.int 1))) (aC (.int 2))) (aC (.int 2147483543))) (aC (.int 1))) aNil))))))
theorem pot_ok {S : Sto} {Q : KD} {c k x : Int} (hc : 0 ≤ c) (hb : c.natAbs.log2 < 2 ^ 20 + 64) (k0 : 0 ≤ k) (k1 : k ≤ 100) (hx : 0 ≤ x ∧ x ≤ c) (q : ∀ a, S a = none → Q (.own a) (put S a .pot)) :
    CMul 97 k ∧ CPow (c % 2147483549 + 97 * k + 1) 2 ∧ (0 : Int) < 2147483543 ∧ 2 ≤ sizeLine ∧ NewL [D.int x, D.int ((c % 2147483549 + 97 * k + 1) ^ Int.toNat 2 % 2147483543 + 1)] S (Ret Q) := by
  have b1 := Int.emod_nonneg c (show (2147483549 : Int) ≠ 0 by decide)
  have b2 := Int.emod_lt_of_pos c (show (0 : Int) < 2147483549 by decide)
  have b3 := Int.emod_nonneg ((c % 2147483549 + 97 * k + 1) ^ Int.toNat 2) (show (2147483543 : Int) ≠ 0 by decide)
  have b4 := Int.emod_lt_of_pos ((c % 2147483549 + 97 * k + 1) ^ Int.toNat 2) (show (0 : Int) < 2147483543 by decide)
  refine ⟨.inl (by decide), ⟨by decide, by decide, by omega⟩, by decide, by rw [sizeLine_eq]; decide, .inr fun a ha => ret_gh (gh_pot put_same ⟨hx.1, log2_le (n := c.natAbs) (by omega) hb, by omega, by omega⟩) ?_⟩
  rw [put_put]
  exact q a ha
theorem law_pot (K : PySem.W.Frag) : ∀ ds S Q E, sp_pot K ds S Q E → a_pot K (aEnd Q E) (startA ["_law_script", "_law_k", "_law_cell"] ds) S := by
  rintro ds S Q E ⟨ns, k, rfl, k0, k1, hb, q⟩
  unfold a_pot
  walk_at "A.go"
  have p18 : CPow 10 18 := ⟨by decide, by decide, by decide⟩
  refine ⟨.scr ns, ns.length, rfl, rfl, ?_⟩
  split
  · rename_i h
    have hk : k < (ns.length : Int) := of_decide_eq_true h
    have hi : ns[k.toNat]? = some (ns[k.toNat]'(by omega)) := List.getElem?_eq_getElem (by omega)
    have hx : atI ns k = some (ns[k.toNat]'(by omega)) := by
      have := atI_nat hi
      rwa [show ((k.toNat : Nat) : Int) = k by omega] at this
    refine ⟨_, hx, p18, trivial, by decide, ?_⟩
    have hb' := hb _ (List.getElem_mem (show k.toNat < ns.length by omega))
    generalize ns[k.toNat]'(by omega) = x at hb' ⊢
    have hp : (0 : Int) < 10 ^ Int.toNat 18 := by decide
    generalize (10 : Int) ^ Int.toNat 18 = t at hp ⊢
    refine pot_ok (c := if x < 0 then -x else x) ?_ ?_ k0 k1 ?_ q
    · split <;> omega
    · exact log2_le (n := x.natAbs) (by split <;> omega) hb'
    · split <;> split <;> omega
  · refine ⟨p18, trivial, by decide, ?_⟩
    have hp : (0 : Int) < 10 ^ Int.toNat 18 := by decide
    generalize (10 : Int) ^ Int.toNat 18 = t at hp ⊢
    refine pot_ok (c := 0) (by decide) (by rw [show (0 : Int).natAbs.log2 = 0 by decide]; exact Nat.succ_pos _) k0 k1 ?_ q
    split <;> omega
/-! ### one of some, an order -/
def sp_among (K : PySem.W.Frag) : SpA := fun ds S Q E => ∃ p d l, ds = [.own p, d] ∧ S p = some .pot ∧ asL S d = some l ∧ l ≠ [] ∧ l.length ≤ 16777216 ∧ ∀ x ∈ l, Q x S
theorem len_among (K : PySem.W.Frag) : ∀ ds S Q E, sp_among K ds S Q E → ds.length = 2 := by rintro ds S Q E ⟨p, d, l, rfl, _⟩; rfl
def sp_shuffled (K : PySem.W.Frag) : SpA := fun ds S Q E => ∃ p d l, ds = [.own p, d] ∧ S p = some .pot ∧ asL S d = some l ∧ l.length ≤ 16777216 ∧ ∀ l', l'.Perm l → Q (.lst l') S
theorem len_shuffled (K : PySem.W.Frag) : ∀ ds S Q E, sp_shuffled K ds S Q E → ds.length = 2 := by rintro ds S Q E ⟨p, d, l, rfl, _⟩; rfl
def a_among (K : PySem.W.Frag) : AS := (aRet (aOp aIx (aVar 1) (aCl (sp_take K) (aCons (aVar 0) (aCons (aCB aLen (aCons (aVar 1) aNil)) aNil)))))
def a_shuffled (K : PySem.W.Frag) : AS := (aSeq (aSet 2 (aCB aList (aCons (aVar 1) aNil)))
 (aSeq (aSet 3 (aLst aNil))
 (aSeq (aFor (aRng1 (aCons (aCB aLen (aCons (aVar 1) aNil)) aNil)) (agName 4) (aDrop (aBM aApp (aVar 3) (aCons (aBM aPopAt (aVar 2) (aCons (aCl (sp_take K) (aCons (aVar 0) (aCons (aCB aLen (aCons (aVar 2) aNil)) aNil))) aNil)) aNil))))
 (aRet (aVar 3)))))
/-- a store like S but at what was made since -/
theorem sub_but {S S' : Sto} {P : Addr → Prop} (h : ∀ c, ¬ P c → S' c = S c) (n : ∀ c, P c → S c = none) : Sub S S' := fun c x e => by
  by_cases z : P c
  · rw [n c z] at e; cases e
  · rw [h c z]; exact e
theorem atI_ok {α : Type} {l : List α} {i : Int} (h0 : 0 ≤ i) (h1 : i < l.length) : atI l i = some (l[i.toNat]'(by omega)) := by
  have := atI_nat (xs := l) (List.getElem?_eq_getElem (show i.toNat < l.length by omega))
  rwa [show ((i.toNat : Nat) : Int) = i by omega] at this
theorem law_among (K : PySem.W.Frag) : ∀ ds S Q E, sp_among K ds S Q E → a_among K (aEnd Q E) (startA ["_law_pot_here", "_law_some"] ds) S := by
  rintro ds S Q E ⟨p, d, l, rfl, hp, hl, hne, hz, q⟩
  unfold a_among
  simp only [aRet, aOp, aVar, aCl, aCons, aNil, aCB, aLen, aEnd, startA, List.map_cons, List.map_nil, List.cons_append, List.nil_append, List.getElem?_cons_zero, List.getElem?_cons_succ]
  have hp0 := List.length_pos_iff.mpr hne
  refine ⟨d, l.length, rfl, lenD_asL hl, p, l.length, rfl, hp, by omega, by omega, fun i i0 i1 => ret (ix_asL hl (atI_ok i0 i1) (ret (q _ (List.getElem_mem _))))⟩
theorem perm_pick {α : Type} : ∀ (l : List α) (i : Nat) (h : i < l.length), ([l[i]] ++ l.eraseIdx i).Perm l
  | _ :: _, 0, _ => .refl _
  | a :: l, i + 1, h => (List.Perm.swap a _ _).trans ((perm_pick l i (Nat.lt_of_succ_lt_succ h)).cons a)
theorem law_shuffled (K : PySem.W.Frag) : ∀ ds S Q E, sp_shuffled K ds S Q E → a_shuffled K (aEnd Q E) (startA ["_law_pot_here", "_law_some", "_law_left", "_law_found", "_law_k"] ds) S := by
  rintro ds S Q E ⟨p, d, l, rfl, hp, hl, hz, q⟩
  unfold a_shuffled
  walk_at "A.go"
  refine ⟨d, l, rfl, itD_asL hl, .inr fun a ha => ⟨Nat.zero_le _, .inr fun b hb => ?_⟩⟩
  have ab : b ≠ a := by rintro rfl; rw [put_same] at hb; cases hb
  rw [put_ne ab] at hb
  have hS : Sub S (put (put S a (.lst l)) b (.lst [])) := (sub_del ha).put hb
  refine ⟨d, l.length, rfl, lenD_asL (asL_sub hS hl), by omega, by omega, ?_⟩
  refine aLoop_inv (fun i ρ S' => ∃ L M e, ρ = [some (.own p), some d, some (.own a), some (.own b), e] ∧ S' a = some (.lst L) ∧ S' b = some (.lst M) ∧ (∀ c, ¬ (c = a ∨ c = b) → S' c = S c) ∧ (M ++ L).Perm l ∧ M.length = i) ?_ ?_ ?_
  · rintro i z ρ S' nx hi ⟨L, M, e, rfl, ga, gb, gc, hp', hm⟩ hn
    have lt : i < l.length := by
      have := (List.getElem?_eq_some_iff.mp hi).1
      rw [rngD_length] at this
      omega
    have hlen : L.length + i = l.length := by have := hp'.length_eq; rw [List.length_append] at this; omega
    have np : ¬ (p = a ∨ p = b) := by rintro (rfl | rfl) <;> simp_all
    have sp' : S' p = some .pot := by rw [gc p np]; exact hp
    refine ⟨trivial, ?_⟩
    walk_at "A.go"
    refine ⟨⟨M, asL_own gb⟩, ⟨L, asL_own ga⟩, .own a, L.length, rfl, lenD_asL (asL_own ga), p, L.length, rfl, sp', by omega, by omega, fun j j0 j1 => ret ?_⟩
    have hj : L[j.toNat]? = some (L[j.toNat]'(by omega)) := List.getElem?_eq_getElem (by omega)
    refine ⟨a, L, j, j.toNat, _, rfl, ga, rfl, by unfold ixN; rw [if_pos j0, if_pos j1], hj, b, M, _, rfl, by rw [put_ne ab]; exact gb, rfl, by rw [sizeLine_eq]; omega, hn _ _ ⟨L.eraseIdx j.toNat, _, _, rfl, ?_, put_same, ?_, ?_, ?_⟩⟩
    · rw [put_ne (Ne.symm ab), put_same]
    · intro c hc
      rw [put_ne (fun z => hc (.inr z)), put_ne (fun z => hc (.inl z))]
      exact gc c hc
    · refine List.Perm.trans ?_ hp'
      rw [List.append_assoc]
      refine List.Perm.append_left M ?_
      exact perm_pick L j.toNat (by omega)
    · rw [List.length_append, hm]; rfl
  · rintro ρ S' ⟨L, M, e, rfl, ga, gb, gc, hp', hm⟩
    refine ⟨trivial, ?_⟩
    rw [rngD_length] at hm
    have hlen := hp'.length_eq
    rw [List.length_append] at hlen
    have : L = [] := List.eq_nil_of_length_eq_zero (by omega)
    subst this
    rw [List.append_nil] at hp'
    refine ret_freeze (q M hp') (sub_but gc ?_) gb hb
    rintro c (rfl | rfl)
    · exact ha
    · exact hb
  · refine ⟨l, [], none, rfl, ?_, put_same, fun c hc => ?_, .refl _, rfl⟩
    · rw [put_ne (Ne.symm ab), put_same]
    · rw [put_ne (fun z => hc (.inr z)), put_ne (fun z => hc (.inl z))]
end A

/-! ## rows of bits: sums, and how many are free -/
namespace A
open PySem
local macro_rules | `(tactic| walk_at "A.go") => `(tactic| simp only [aSeq, aNext, aSet, aVar, atV_s, onB_b, onI_i, onII_i, onL1_i, onL2_i, it_l, it_t, it_s, it_x, ix_l, ix_t, ix_s, add_i, add_x, eq_i, eq_x, eq_b, is_b, aC, aNil, aCons, aOp, aUn, aTup, aLst, aCB, aNot, aAnd, aOr, aTst, aIfE, aAndV, aOrV, aNotV, aChn, aDrop, aRet, aRetN, aIf, agName, agNil, agCons, agTup, aAsg, aPar, aAug, aFor, aRng1, aRng2, aIter, aLc, aYes,
  aCl, aMt, aMk, aFl, aFst, aNeg, aI2, aI20, aLe, aLt, aGt, aGe, aSub, aMod, aMul, aFdv, aPow, aXor, aShl, aShr, agSub, aoN, aoS, aSl, aRev, aLen, aList, aTupOf, aLRg1, aLRg2, aAbs, aI2N, aMax, aMin, aDm, aAll, aAny, aBM, aApp, aPopAt, aPop, aClear, aRevM, aExt, aRepr, aClD, aLnSt, aIAdd, aBreak, aCont,
  aEnd, startA, List.map_cons, List.map_nil, List.cons_append, List.nil_append, List.length_cons, List.length_nil, List.replicate, List.getElem?_cons_zero, List.getElem?_cons_succ, List.set_cons_zero, List.set_cons_succ, Nat.reduceAdd, Nat.reduceSub, Nat.succ_eq_add_one, Int.reduceAdd, Int.reduceMul,
  reduceIte, Bool.false_eq_true, Bool.not_true, Bool.not_false, ite_true, ite_false])
def bl (n : Nat) : Nat := if n = 0 then 0 else n.log2 + 1
theorem bl_le {n k : Nat} : bl n ≤ k ↔ n < 2 ^ k := by
  unfold bl
  split
  · rename_i h
    subst h
    exact ⟨fun _ => Nat.pos_of_ne_zero (by simp), fun _ => Nat.zero_le _⟩
  · rename_i h
    rw [← Nat.log2_lt h]
    exact Iff.rfl
theorem bl_top {n j : Nat} (h : bl n = j + 1) : n.testBit j = true ∧ n < 2 ^ (j + 1) := by
  have h1 : n < 2 ^ (j + 1) := bl_le.mp (by omega)
  refine ⟨?_, h1⟩
  cases e : n.testBit j with
  | true => rfl
  | false =>
    have : n < 2 ^ j := Nat.lt_pow_two_of_testBit n fun i hi => by
      by_cases q : i = j
      · rw [q]; exact e
      · exact Nat.testBit_lt_two_pow (Nat.lt_of_lt_of_le h1 (Nat.pow_le_pow_right (by decide) (by omega)))
    have := bl_le.mpr this
    omega
theorem bl_pos {n : Nat} (h : n ≠ 0) : 0 < bl n := by unfold bl; rw [if_neg h]; exact Nat.succ_pos _
theorem bl_zero : bl 0 = 0 := rfl
theorem bl_xor_eq {x y : Nat} (hx : x ≠ 0) (h : bl x = bl y) : bl (x ^^^ y) < bl x := by
  obtain ⟨j, hj⟩ : ∃ j, bl x = j + 1 := ⟨bl x - 1, by have := bl_pos hx; omega⟩
  obtain ⟨a1, a2⟩ := bl_top hj
  obtain ⟨b1, b2⟩ := bl_top (h.symm.trans hj)
  have : x ^^^ y < 2 ^ j := Nat.lt_pow_two_of_testBit _ fun i hi => by
    rw [Nat.testBit_xor]
    by_cases q : i = j
    · rw [q, a1, b1]; rfl
    · have le : 2 ^ (j + 1) ≤ 2 ^ i := Nat.pow_le_pow_right (by decide) (by omega)
      rw [Nat.testBit_lt_two_pow (Nat.lt_of_lt_of_le a2 le), Nat.testBit_lt_two_pow (Nat.lt_of_lt_of_le b2 le)]; rfl
  have := bl_le.mpr this
  omega
theorem bl_xor_lt {x y : Nat} (h : bl x < bl y) : bl (x ^^^ y) = bl y := by
  obtain ⟨j, hj⟩ : ∃ j, bl y = j + 1 := ⟨bl y - 1, by omega⟩
  obtain ⟨b1, b2⟩ := bl_top hj
  have hx : x < 2 ^ j := bl_le.mp (by omega)
  have h1 : x ^^^ y < 2 ^ (j + 1) := Nat.xor_lt_two_pow (Nat.lt_of_lt_of_le hx (Nat.pow_le_pow_right (by decide) (by omega))) b2
  have h2 := bl_le.mpr h1
  by_cases q : bl (x ^^^ y) ≤ j
  · have := Nat.testBit_lt_two_pow (bl_le.mp q)
    rw [Nat.testBit_xor, Nat.testBit_lt_two_pow hx, b1] at this
    cases this
  · omega
theorem bl_xor_gt {x y : Nat} (h : bl y < bl x) : bl (x ^^^ y) = bl x := by rw [Nat.xor_comm]; exact bl_xor_lt h
/-- x is a sum of some of the rows (the last one first) -/
def Spn : List Nat → Nat → Prop
  | [], x => x = 0
  | r :: l, x => Spn l x ∨ Spn l (x ^^^ r)
instance : ∀ (l : List Nat) (x : Nat), Decidable (Spn l x)
  | [], x => inferInstanceAs (Decidable (x = 0))
  | r :: l, x => @instDecidableOr _ _ (instDecidableSpn l x) (instDecidableSpn l (x ^^^ r))
/-- how many rows are no sums of those ahead of them -/
def rk : List Nat → Nat
  | [] => 0
  | r :: l => rk l + if Spn l r then 0 else 1
theorem xor_xor_self (x y : Nat) : x ^^^ y ^^^ y = x := by rw [Nat.xor_assoc, Nat.xor_self, Nat.xor_zero]
theorem spn_zero : ∀ l : List Nat, Spn l 0
  | [] => rfl
  | _ :: l => .inl (spn_zero l)
theorem spn_xor : ∀ {l : List Nat} {x y : Nat}, Spn l x → Spn l y → Spn l (x ^^^ y)
  | [], _, _, hx, hy => by
    have hx : _ = 0 := hx
    have hy : _ = 0 := hy
    subst hx hy
    rfl
  | r :: l, x, y, .inl hx, .inl hy => .inl (spn_xor hx hy)
  | r :: l, x, y, .inl hx, .inr hy => .inr (by rw [Nat.xor_assoc]; exact spn_xor hx hy)
  | r :: l, x, y, .inr hx, .inl hy => .inr (by
      have := spn_xor hx hy
      rwa [Nat.xor_assoc, Nat.xor_comm r y, ← Nat.xor_assoc] at this)
  | r :: l, x, y, .inr hx, .inr hy => .inl (by
      have := spn_xor hx hy
      rwa [Nat.xor_assoc, ← Nat.xor_assoc r y r, Nat.xor_comm r y, xor_xor_self] at this)
theorem spn_back {l : List Nat} {x r : Nat} (h : Spn l (x ^^^ r)) (hr : Spn l r) : Spn l x := by
  have := spn_xor h hr
  rwa [xor_xor_self] at this
theorem spn_lt : ∀ {l : List Nat} {x k : Nat}, (∀ r ∈ l, r < 2 ^ k) → Spn l x → x < 2 ^ k
  | [], x, k, _, h => by
    have h : x = 0 := h
    subst h
    exact Nat.pos_of_ne_zero (by simp)
  | r :: l, x, k, hl, .inl h => spn_lt (fun a ha => hl a (List.mem_cons_of_mem _ ha)) h
  | r :: l, x, k, hl, .inr h => by
    have h1 := spn_lt (fun a ha => hl a (List.mem_cons_of_mem _ ha)) h
    have h2 := Nat.xor_lt_two_pow h1 (hl r List.mem_cons_self)
    rwa [xor_xor_self] at h2
/-- the rows kept, by how many bits they have -/
structure Red (l : List Nat) (fr : List (Nat × Nat)) : Prop where
  nd : (fr.map (·.1)).Nodup
  bit : ∀ p ∈ fr, p.2 ≠ 0 ∧ bl p.2 = p.1 ∧ Spn l p.2
  all : ∀ x, Spn l x → x ≠ 0 → bl x ∈ fr.map (·.1)
  len : fr.length = rk l
theorem red_nil : Red [] [] := ⟨List.nodup_nil, fun _ h => (List.not_mem_nil h).elim, fun x h n => (n h).elim, rfl⟩
/-- a row that came down to 0 is a sum -/
theorem red_sum {l : List Nat} {fr : List (Nat × Nat)} {r : Nat} (R : Red l fr) (h : Spn l r) : Red (r :: l) fr :=
  ⟨R.nd, fun p hp => ⟨(R.bit p hp).1, (R.bit p hp).2.1, .inl (R.bit p hp).2.2⟩, fun x hx n => R.all x (by
    rcases hx with hx | hx
    · exact hx
    · exact spn_back hx h) n, by show _ = rk l + _; rw [if_pos h]; exact R.len⟩
theorem red_new {l : List Nat} {fr : List (Nat × Nat)} {r r' : Nat} (R : Red l fr) (h : Spn l (r ^^^ r')) (n : r' ≠ 0) (hb : bl r' ∉ fr.map (·.1)) : Red (r :: l) (fr ++ [(bl r', r')]) := by
  have hr : ¬ Spn l r := fun z => hb (R.all r' (by
    have := spn_xor h z
    rwa [Nat.xor_comm r r', xor_xor_self] at this) n)
  refine ⟨?_, fun p hp => ?_, fun x hx nx => ?_, ?_⟩
  · rw [List.map_append, List.nodup_append]
    refine ⟨R.nd, by simp, fun a ha b hb' => ?_⟩
    have : b = bl r' := by simpa using hb'
    subst this
    rintro rfl
    exact hb ha
  · rcases List.mem_append.mp hp with hp | hp
    · exact ⟨(R.bit p hp).1, (R.bit p hp).2.1, .inl (R.bit p hp).2.2⟩
    · rw [List.mem_singleton.mp hp]
      exact ⟨n, rfl, .inr (by rw [Nat.xor_comm]; exact h)⟩
  · rw [List.map_append]
    by_cases e : bl x = bl r'
    · rw [e]; exact List.mem_append_right _ (by simp)
    · refine List.mem_append_left _ ?_
      rcases hx with hx | hx
      · exact R.all x hx nx
      · have hx' : Spn l (x ^^^ r') := by
          have := spn_xor hx h
          rwa [Nat.xor_assoc, ← Nat.xor_assoc r r r', Nat.xor_self, Nat.zero_xor] at this
        have nz : x ^^^ r' ≠ 0 := fun z => e (by
          have h9 := xor_xor_self x r'
          rw [z, Nat.zero_xor] at h9
          rw [h9])
        have hm := R.all _ hx' nz
        rcases Nat.lt_or_gt_of_ne e with q | q
        · rw [bl_xor_lt q] at hm; exact (hb hm).elim
        · rw [bl_xor_gt q] at hm; exact hm
  · rw [List.length_append, R.len]
    show _ = rk l + _
    rw [if_neg hr]
    rfl
theorem bits_nat (n : Nat) : Builtin.Int.intBits (n : Int) = bl n := by
  unfold Builtin.Int.intBits bl
  by_cases h : n = 0
  · subst h; rfl
  · rw [if_neg (by simpa using h), if_neg h]
    rfl
theorem xor_nat (x y : Nat) : Builtin.bitXor (x : Int) (y : Int) = ((x ^^^ y : Nat) : Int) := Bits.bitXor_pp (Int.natCast_nonneg _) (Int.natCast_nonneg _)
end A

namespace A
open PySem PySem.Spec L2 PyProof.Rows
local macro_rules | `(tactic| walk_at "A.go") => `(tactic| simp only [aSeq, aNext, aSet, aVar, atV_s, onB_b, onI_i, onII_i, onL1_i, onL2_i, it_l, it_t, it_s, it_x, ix_l, ix_t, ix_s, add_i, add_x, eq_i, eq_x, eq_b, is_b, aC, aNil, aCons, aOp, aUn, aTup, aLst, aCB, aNot, aAnd, aOr, aTst, aIfE, aAndV, aOrV, aNotV, aChn, aDrop, aRet, aRetN, aIf, agName, agNil, agCons, agTup, aAsg, aPar, aAug, aFor, aRng1, aRng2, aIter, aLc, aYes,
  aCl, aMt, aMk, aFl, aFst, aNeg, aI2, aI20, aLe, aLt, aGt, aGe, aSub, aMod, aMul, aFdv, aPow, aXor, aShl, aShr, agSub, aoN, aoS, aSl, aRev, aLen, aList, aTupOf, aLRg1, aLRg2, aAbs, aI2N, aMax, aMin, aDm, aAll, aAny, aBM, aApp, aPopAt, aPop, aClear, aRevM, aExt, aRepr, aClD, aLnSt, aIAdd, aBreak, aCont,
  aEnd, startA, List.map_cons, List.map_nil, List.cons_append, List.nil_append, List.length_cons, List.length_nil, List.replicate, List.getElem?_cons_zero, List.getElem?_cons_succ, List.set_cons_zero, List.set_cons_succ, Nat.reduceAdd, Nat.reduceSub, Nat.succ_eq_add_one, Int.reduceAdd, Int.reduceMul,
  reduceIte, Bool.false_eq_true, Bool.not_true, Bool.not_false, ite_true, ite_false])
def okT (K : PySem.W.Frag) (C : Addr) : Prop := C = He.ga K "Rows"
def nD (n : Nat) : D := .int n
def rowsF (rs : List Nat) : List (Str × D) := [("numbers", .lst ((rng rs.length).map .int)), ("nested", .int 0), ("own_rows", .lst (rs.map nD))]
def Low (rs : List Nat) : Prop := ∀ r ∈ rs, r < 2 ^ 12
/-- a yard of rows at y -/
def IsR (K : PySem.W.Frag) (S : Sto) (y : Addr) (rs : List Nat) : Prop := S y = some (.ins (He.ga K "Rows") (rowsF rs)) ∧ rs.length ≤ 24 ∧ Low rs
def InR (n : Nat) (i : Int) : Prop := 0 ≤ i ∧ i < n
theorem mem_rngI {n : Nat} {i : Int} : i ∈ rng n ↔ InR n i := mem_rng
def rowAt (rs : List Nat) (i : Int) : Nat := rs.getD i.toNat 0
def Heap_ (m : Nat) (hp : List Int) : Prop := hp.Nodup ∧ ∀ i ∈ hp, InR m i
/-- what the heap hp is worth -/
def worthR (rs : List Nat) (hp : List Int) : Nat := rk (hp.map (rowAt rs)).reverse
def sp_is_number (K : PySem.W.Frag) : SpA := fun ds S Q E => ∃ i m, ds = [.int i, .int m] ∧ Q (.bl (decide (0 ≤ i) && decide (i < m))) S
theorem len_is_number (K : PySem.W.Frag) : ∀ ds S Q E, sp_is_number K ds S Q E → ds.length = 2 := by
  rintro ds S Q E ⟨_, _, rfl, _⟩
  rfl
def sp_is_heap (K : PySem.W.Frag) : SpA := fun ds S Q E => ∃ d m hp, ds = [d, .int (m : Nat)] ∧ asL S d = some (hp.map .int) ∧ Heap_ m hp ∧ m ≤ 25 ∧ Q (.bl true) S
theorem len_is_heap (K : PySem.W.Frag) : ∀ ds S Q E, sp_is_heap K ds S Q E → ds.length = 2 := by
  rintro ds S Q E ⟨_, _, _, rfl, _⟩
  rfl
def sp_Yard_init (K : PySem.W.Frag) : SpA := fun ds S Q E => ∃ y n C, ds = [.own y, .int (n : Nat), .int 0] ∧ S y = some (.ins C []) ∧ okT K C ∧ n ≤ 25 ∧ Q .non (put S y (.ins C [("numbers", .lst ((rng n).map .int)), ("nested", .int 0)]))
theorem len_Yard_init (K : PySem.W.Frag) : ∀ ds S Q E, sp_Yard_init K ds S Q E → ds.length = 3 := by
  rintro ds S Q E ⟨_, _, _, rfl, _⟩
  rfl
def sp_Yard_many (K : PySem.W.Frag) : SpA := fun ds S Q E => ∃ y rs, ds = [.own y] ∧ IsR K S y rs ∧ Q (.int rs.length) S
theorem len_Yard_many (K : PySem.W.Frag) : ∀ ds S Q E, sp_Yard_many K ds S Q E → ds.length = 1 := by
  rintro ds S Q E ⟨_, _, rfl, _⟩
  rfl
def sp_Yard_things (K : PySem.W.Frag) : SpA := fun ds S Q E => ∃ y rs, ds = [.own y] ∧ IsR K S y rs ∧ NewL ((rng rs.length).map .int) S Q
theorem len_Yard_things (K : PySem.W.Frag) : ∀ ds S Q E, sp_Yard_things K ds S Q E → ds.length = 1 := by
  rintro ds S Q E ⟨_, _, rfl, _⟩
  rfl
def sp_Rows_worth_of (K : PySem.W.Frag) : SpA := fun ds S Q E => ∃ y rs d hp, ds = [.own y, d] ∧ IsR K S y rs ∧ asL S d = some (hp.map .int) ∧ (∀ i ∈ hp, InR rs.length i) ∧ Q (.int (worthR rs hp)) S
theorem len_Rows_worth_of (K : PySem.W.Frag) : ∀ ds S Q E, sp_Rows_worth_of K ds S Q E → ds.length = 2 := by
  rintro ds S Q E ⟨_, _, _, _, rfl, _⟩
  rfl
def sp_want_heap (K : PySem.W.Frag) : SpA := fun ds S Q E => ∃ y rs d hp, ds = [.own y, d] ∧ IsR K S y rs ∧ asL S d = some (hp.map .int) ∧ Heap_ rs.length hp ∧ Q .non S
theorem len_want_heap (K : PySem.W.Frag) : ∀ ds S Q E, sp_want_heap K ds S Q E → ds.length = 2 := by
  rintro ds S Q E ⟨_, _, _, _, rfl, _⟩
  rfl
def sp_Yard_worth (K : PySem.W.Frag) : SpA := fun ds S Q E => ∃ y rs d hp, ds = [.own y, d] ∧ IsR K S y rs ∧ asL S d = some (hp.map .int) ∧ Heap_ rs.length hp ∧ Q (.int (worthR rs hp)) S
theorem len_Yard_worth (K : PySem.W.Frag) : ∀ ds S Q E, sp_Yard_worth K ds S Q E → ds.length = 2 := by
  rintro ds S Q E ⟨_, _, _, _, rfl, _⟩
  rfl
def sp_Yard_whole (K : PySem.W.Frag) : SpA := fun ds S Q E => ∃ y rs, ds = [.own y] ∧ IsR K S y rs ∧ Q (.int (worthR rs (rng rs.length))) S
theorem len_Yard_whole (K : PySem.W.Frag) : ∀ ds S Q E, sp_Yard_whole K ds S Q E → ds.length = 1 := by
  rintro ds S Q E ⟨_, _, rfl, _⟩
  rfl
def sp_Yard_len (K : PySem.W.Frag) : SpA := fun ds S Q E => ∃ y rs, ds = [.own y] ∧ IsR K S y rs ∧ Q (.int rs.length) S
theorem len_Yard_len (K : PySem.W.Frag) : ∀ ds S Q E, sp_Yard_len K ds S Q E → ds.length = 1 := by
  rintro ds S Q E ⟨_, _, rfl, _⟩
  rfl
def sp_want_list (K : PySem.W.Frag) : SpA := fun ds S Q E => ∃ d l, ds = [d] ∧ asL S d = some l ∧ l.length ≤ 24 ∧ Q .non S
theorem len_want_list (K : PySem.W.Frag) : ∀ ds S Q E, sp_want_list K ds S Q E → ds.length = 1 := by
  rintro ds S Q E ⟨_, _, rfl, _⟩
  rfl
def sp_want_each (K : PySem.W.Frag) : SpA := fun ds S Q E => ∃ d bs, ds = [d] ∧ asL S d = some (List.map D.bl bs) ∧ bs.all id = true ∧ Q .non S
theorem len_want_each (K : PySem.W.Frag) : ∀ ds S Q E, sp_want_each K ds S Q E → ds.length = 1 := by
  rintro ds S Q E ⟨_, _, rfl, _⟩
  rfl
def sp_Rows_init (K : PySem.W.Frag) : SpA := fun ds S Q E => ∃ y d rs, ds = [.own y, d] ∧ S y = some (.ins (He.ga K "Rows") []) ∧ asL S d = some (rs.map nD) ∧ d ≠ .own y ∧ rs.length ≤ 24 ∧ Low rs ∧ Q .non (put S y (.ins (He.ga K "Rows") (rowsF rs)))
theorem len_Rows_init (K : PySem.W.Frag) : ∀ ds S Q E, sp_Rows_init K ds S Q E → ds.length = 2 := by
  rintro ds S Q E ⟨_, _, _, rfl, _⟩
  rfl
def sp_Rows_rows (K : PySem.W.Frag) : SpA := fun ds S Q E => ∃ y rs, ds = [.own y] ∧ IsR K S y rs ∧ NewL (rs.map nD) S Q
theorem len_Rows_rows (K : PySem.W.Frag) : ∀ ds S Q E, sp_Rows_rows K ds S Q E → ds.length = 1 := by
  rintro ds S Q E ⟨_, _, rfl, _⟩
  rfl
def sp_rows (K : PySem.W.Frag) : SpA := fun ds S Q E => ∃ p, ds = [.own p] ∧ S p = some .pot ∧ ∀ rs : List Nat, rs.length ≤ 24 → Low rs → Q (.lst (rs.map nD)) S
theorem len_rows (K : PySem.W.Frag) : ∀ ds S Q E, sp_rows K ds S Q E → ds.length = 1 := by
  rintro ds S Q E ⟨_, rfl, _⟩
  rfl
def sp_free (K : PySem.W.Frag) : SpA := fun ds S Q E => ∃ l, ds = [.lst (List.map nD l)] ∧ Low l ∧ Q (.int (rk l.reverse)) S
theorem len_free (K : PySem.W.Frag) : ∀ ds S Q E, sp_free K ds S Q E → ds.length = 1 := by
  rintro ds S Q E ⟨_, rfl, _⟩
  rfl
def sp_heap (K : PySem.W.Frag) : SpA := fun ds S Q E => ∃ p m, ds = [.own p, .int (m : Nat)] ∧ S p = some .pot ∧ m ≤ 24 ∧ ∀ hp, Heap_ m hp → Q (.lst (hp.map .int)) S
theorem len_heap (K : PySem.W.Frag) : ∀ ds S Q E, sp_heap K ds S Q E → ds.length = 2 := by
  rintro ds S Q E ⟨_, _, rfl, _⟩
  rfl
def sp_is (K : PySem.W.Frag) : SpA := fun ds S Q E => ∃ i j, ds = [.int i, .int j] ∧ Q (.bl (decide (i = j))) S
theorem len_is (K : PySem.W.Frag) : ∀ ds S Q E, sp_is K ds S Q E → ds.length = 2 := by
  rintro ds S Q E ⟨_, _, rfl, _⟩
  rfl
def sp_worth_right (K : PySem.W.Frag) : SpA := fun ds S Q E => ∃ y z rs hp, ds = [.own y, .own z, .lst (List.map nD rs), .lst (hp.map .int)] ∧ IsR K S y rs ∧ IsR K S z rs.reverse ∧ Heap_ rs.length hp ∧ Q (.bl true) S
theorem len_worth_right (K : PySem.W.Frag) : ∀ ds S Q E, sp_worth_right K ds S Q E → ds.length = 4 := by
  rintro ds S Q E ⟨_, _, _, _, rfl, _⟩
  rfl
def sp_told (K : PySem.W.Frag) : SpA := fun ds S Q E => ∃ y rs, ds = [.own y, .lst (List.map nD rs)] ∧ IsR K S y rs ∧ Q (.bl true) S
theorem len_told (K : PySem.W.Frag) : ∀ ds S Q E, sp_told K ds S Q E → ds.length = 2 := by
  rintro ds S Q E ⟨_, _, rfl, _⟩
  rfl
def sp_law (K : PySem.W.Frag) : SpA := fun ds S Q E => ∃ ns, ds = [.scr ns] ∧ ns.length ≤ 63 ∧ Bits ns ∧ PySem.W.kitOne K (.ref (He.ga K "Rows")) (.ref (He.ga K "Yard")) = some true ∧ PySem.W.kitOne K (.type "list") (.ref (He.ga K "Yard")) = some false ∧ Q (.bl true) S
theorem len_law (K : PySem.W.Frag) : ∀ ds S Q E, sp_law K ds S Q E → ds.length = 1 := by
  rintro ds S Q E ⟨_, rfl, _⟩
  rfl
def a_is_number (K : PySem.W.Frag) : AS := (aRet (aAndV (aCB (aIsi K (okT K)) (aCons (aVar 0) (aCons (aC (.ty "int")) aNil))) (aAndV (aNotV (aCB (aIsi K (okT K)) (aCons (aVar 0) (aCons (aC (.ty "bool")) aNil)))) (aChn aLe aLt (aC (.int 0)) (aVar 0) (aVar 1)))))
def a_is_heap (K : PySem.W.Frag) : AS := (aSeq (aIf (aOr (aNot (aTst (aCB (aIsi K (okT K)) (aCons (aVar 0) (aCons (aC (.ty "list")) aNil))))) (aNot (aTst (aCB aAll (aCons (aLc (aIter (aVar 0)) (agName 2) aYes (aCl (sp_is_number K) (aCons (aVar 2) (aCons (aVar 1) aNil))) [2]) aNil))))) (aRet (aC (.bl false))) aNext)
 (aRet (aOp (aEqD false) (aLnSt (aVar 0)) (aCB aLen (aCons (aVar 0) aNil)))))
def a_Yard_init (K : PySem.W.Frag) : AS := (aSeq (aFst (okT K) "numbers" (aVar 0) (aLRg1 (aVar 1)))
 (aFst (okT K) "nested" (aVar 0) (aVar 2)))
def a_Yard_many (K : PySem.W.Frag) : AS := (aRet (aCB aLen (aCons (aFl (okT K) "numbers" (aVar 0)) aNil)))
def a_Yard_things (K : PySem.W.Frag) : AS := (aRet (aCB aList (aCons (aFl (okT K) "numbers" (aVar 0)) aNil)))
def a_Rows_worth_of (K : PySem.W.Frag) : AS := (aSeq (aSet 2 aDNew)
 (aSeq (aFor (aIter (aVar 1)) (agName 3) (aSeq (aSet 4 (aOp aIx (aFl (okT K) "own_rows" (aVar 0)) (aVar 3)))
 (aSeq (aWhile (aTst (aDIn false (aBits (aVar 4)) (aVar 2))) (aAug 4 (aDIx (aVar 2) (aBits (aVar 4))) aXor))
 (aIf (aTst (aOp aGt (aVar 4) (aC (.int 0)))) (aDPut (aVar 2) (aBits (aVar 4)) (aVar 4)) aNext))))
 (aRet (aCB aLenD (aCons (aVar 2) aNil)))))
def a_want_heap (K : PySem.W.Frag) : AS := (aIf (aNot (aTst (aCl (sp_is_heap K) (aCons (aVar 1) (aCons (aMt (okT K) "many" (sp_Yard_many K) (aVar 0) aNil) aNil))))) aNever aNext)
def a_Yard_worth (K : PySem.W.Frag) : AS := (aSeq (aDrop (aCl (sp_want_heap K) (aCons (aVar 0) (aCons (aVar 1) aNil))))
 (aRet (aMt (okT K) "worth_of" (sp_Rows_worth_of K) (aVar 0) (aCons (aCB aList (aCons (aVar 1) aNil)) aNil))))
def a_Yard_whole (K : PySem.W.Frag) : AS := (aRet (aMt (okT K) "worth_of" (sp_Rows_worth_of K) (aVar 0) (aCons (aMt (okT K) "things" (sp_Yard_things K) (aVar 0) aNil) aNil)))
def a_Yard_len (K : PySem.W.Frag) : AS := (aRet (aCB aLen (aCons (aFl (okT K) "numbers" (aVar 0)) aNil)))
def a_want_list (K : PySem.W.Frag) : AS := (aSeq (aIf (aNot (aTst (aCB (aIsi K (okT K)) (aCons (aVar 0) (aCons (aC (.ty "list")) aNil))))) aNever aNext)
 (aIf (aTst (aOp aGt (aCB aLen (aCons (aVar 0) aNil)) (aC (.int 24)))) aNever aNext))
def a_want_each (K : PySem.W.Frag) : AS := (aIf (aNot (aTst (aCB aAll (aCons (aVar 0) aNil)))) aNever aNext)
def a_Rows_init (K : PySem.W.Frag) : AS := (aSeq (aDrop (aCl (sp_want_list K) (aCons (aVar 1) aNil)))
 (aSeq (aDrop (aCl (sp_want_each K) (aCons (aLc (aIter (aVar 1)) (agName 2) aYes (aCl (sp_is_number K) (aCons (aVar 2) (aCons (aC (.int 4096)) aNil))) [2]) aNil)))
 (aSeq (aDrop (aClD (sp_Yard_init K) [.int 0] (aCons (aVar 0) (aCons (aCB aLen (aCons (aVar 1) aNil)) aNil))))
 (aFst (okT K) "own_rows" (aVar 0) (aCB aList (aCons (aVar 1) aNil))))))
def a_Rows_rows (K : PySem.W.Frag) : AS := (aRet (aCB aList (aCons (aFl (okT K) "own_rows" (aVar 0)) aNil)))
def a_rows (K : PySem.W.Frag) : AS := (aSeq (aSet 1 (aOp aIx (aLst (aCons (aC (.int 4)) (aCons (aC (.int 16)) (aCons (aC (.int 64)) (aCons (aC (.int 4096)) aNil))))) (aCl (sp_take K) (aCons (aVar 0) (aCons (aC (.int 4)) aNil)))))
 (aSeq (aSet 2 (aOp aIx (aLst (aCons (aC (.int 24)) (aCons (aCl (sp_take K) (aCons (aVar 0) (aCons (aC (.int 25)) aNil))) (aCons (aCl (sp_take K) (aCons (aVar 0) (aCons (aC (.int 10)) aNil))) aNil)))) (aCl (sp_take K) (aCons (aVar 0) (aCons (aC (.int 3)) aNil)))))
 (aSeq (aSet 3 (aLst aNil))
 (aSeq (aFor (aRng1 (aCons (aVar 2) aNil)) (agName 4) (aSeq (aSet 5 (aCl (sp_take K) (aCons (aVar 0) (aCons (aVar 1) aNil))))
 (aSeq (aSet 6 (aCl (sp_take K) (aCons (aVar 0) (aCons (aC (.int 5)) aNil))))
 (aSeq (aIf (aAnd (aTst (aOp (aEqD true) (aVar 3) (aLst aNil))) (aTst (aOp aLt (aVar 6) (aC (.int 2))))) (aSet 5 (aOp aIx (aLst (aCons (aCl (sp_among K) (aCons (aVar 0) (aCons (aVar 3) aNil))) (aCons (aOp aXor (aCl (sp_among K) (aCons (aVar 0) (aCons (aVar 3) aNil))) (aCl (sp_among K) (aCons (aVar 0) (aCons (aVar 3) aNil)))) aNil))) (aVar 6))) aNext)
 (aDrop (aBM aApp (aVar 3) (aCons (aVar 5) aNil)))))))
 (aRet (aVar 3))))))
def a_free (K : PySem.W.Frag) : AS := (aSeq (aSet 1 (aDsp1 (.inl 0) (.bl true)))
 (aSeq (aSet 2 (aC (.int 0)))
 (aSeq (aFor (aIter (aVar 0)) (agName 3) (aIf (aTst (aDIn true (aVar 3) (aVar 1))) (aSeq (aFor (aIter (aCB aListD (aCons (aVar 1) aNil))) (agName 4) (aDPut (aVar 1) (aOp aXor (aVar 4) (aVar 3)) (aC (.bl true))))
 (aSet 2 (aOp aAdd (aVar 2) (aC (.int 1))))) aNext))
 (aRet (aVar 2)))))
def a_heap (K : PySem.W.Frag) : AS := (aRet (aSl (aCl (sp_shuffled K) (aCons (aVar 0) (aCons (aLRg1 (aVar 1)) aNil))) aoN (aoS (aCl (sp_take K) (aCons (aVar 0) (aCons (aOp aAdd (aVar 1) (aC (.int 1))) aNil))))))
def a_is (K : PySem.W.Frag) : AS := (aRet (aAndV (aCB (aIsi K (okT K)) (aCons (aVar 0) (aCons (aC (.ty "int")) aNil))) (aAndV (aNotV (aCB (aIsi K (okT K)) (aCons (aVar 0) (aCons (aC (.ty "bool")) aNil)))) (aOp (aEqD false) (aVar 0) (aVar 1)))))
def a_worth_right (K : PySem.W.Frag) : AS := (aSeq (aSet 4 (aCB aList (aCons (aVar 3) aNil)))
 (aSeq (aSet 5 (aCl (sp_free K) (aCons (aLc (aIter (aVar 3)) (agName 6) aYes (aOp aIx (aVar 2) (aVar 6)) [6]) aNil)))
 (aSeq (aSet 7 (aLc (aIter (aVar 3)) (agName 6) aYes (aOp aSub (aOp aSub (aCB aLen (aCons (aVar 2) aNil)) (aC (.int 1))) (aVar 6)) [6]))
 (aSeq (aIf (aOr (aNot (aTst (aCl (sp_is K) (aCons (aMt (okT K) "worth" (sp_Yard_worth K) (aVar 0) (aCons (aVar 4) aNil)) (aCons (aVar 5) aNil))))) (aOr (aNot (aTst (aCl (sp_is K) (aCons (aMt (okT K) "worth" (sp_Yard_worth K) (aVar 1) (aCons (aVar 7) aNil)) (aCons (aVar 5) aNil))))) (aTst (aOp (aEqD true) (aVar 4) (aVar 3))))) (aRet (aC (.bl false))) aNext)
 (aSeq (aIf (aAnd (aTst (aOp aGt (aCB aLen (aCons (aVar 3) aNil)) (aC (.int 1)))) (aTst (aOp aLt (aCB aLen (aCons (aVar 2) aNil)) (aC (.int 24))))) (aSeq (aSet 8 (aMk (He.ga K "Rows") (sp_Rows_init K) (aCons (aOp aAdd (aVar 2) (aLst (aCons (aOp aXor (aOp aIx (aVar 2) (aOp aIx (aVar 3) (aC (.int 0)))) (aOp aIx (aVar 2) (aOp aIx (aVar 3) (aUn aNeg (aC (.int 1)))))) aNil))) aNil)))
 (aIf (aNot (aTst (aCl (sp_is K) (aCons (aMt (okT K) "worth" (sp_Yard_worth K) (aVar 8) (aCons (aOp aAdd (aVar 3) (aLst (aCons (aCB aLen (aCons (aVar 2) aNil)) aNil))) aNil)) (aCons (aVar 5) aNil))))) (aRet (aC (.bl false))) aNext)) aNext)
 (aRet (aCl (sp_is K) (aCons (aMt (okT K) "worth" (sp_Yard_worth K) (aVar 0) (aCons (aVar 4) aNil)) (aCons (aVar 5) aNil)))))))))
def a_told (K : PySem.W.Frag) : AS := (aSeq (aSet 2 (aLRg1 (aCB aLen (aCons (aVar 1) aNil))))
 (aSeq (aSet 3 (aLst (aCons (aMt (okT K) "things" (sp_Yard_things K) (aVar 0) aNil) (aCons (aMt (okT K) "rows" (sp_Rows_rows K) (aVar 0) aNil) aNil))))
 (aSeq (aIf (aTst (aOp (aEqD true) (aCB aRepr (aCons (aVar 3) aNil)) (aCB aRepr (aCons (aLst (aCons (aVar 2) (aCons (aVar 1) aNil))) aNil)))) (aRet (aC (.bl false))) aNext)
 (aSeq (aDrop (aBM aApp (aOp aIx (aVar 3) (aC (.int 0))) (aCons (aC (.int 0)) aNil)))
 (aSeq (aDrop (aBM aClear (aOp aIx (aVar 3) (aC (.int 1))) aNil))
 (aSeq (aIf (aOr (aNot (aTst (aCl (sp_is K) (aCons (aMt (okT K) "many" (sp_Yard_many K) (aVar 0) aNil) (aCons (aCB aLen (aCons (aVar 1) aNil)) aNil))))) (aOr (aTst (aOp (aEqD true) (aCB (aLenO (okT K) (sp_Yard_len K)) (aCons (aVar 0) aNil)) (aCB aLen (aCons (aVar 1) aNil)))) (aNot (aTst (aCl (sp_is K) (aCons (aMt (okT K) "whole" (sp_Yard_whole K) (aVar 0) aNil) (aCons (aCl (sp_free K) (aCons (aVar 1) aNil)) aNil))))))) (aRet (aC (.bl false))) aNext)
 (aRet (aAndV (aOp (aEqD false) (aMt (okT K) "things" (sp_Yard_things K) (aVar 0) aNil) (aVar 2)) (aOp (aEqD false) (aMt (okT K) "rows" (sp_Rows_rows K) (aVar 0) aNil) (aVar 1))))))))))
def a_law (K : PySem.W.Frag) : AS := (aSeq (aFor (aRng1 (aCons (aCB aMax (aCons (aC (.int 1)) (aCons (aCB aMin (aCons (aC (.int 4)) (aCons (aCB aLen (aCons (aVar 0) aNil)) aNil))) aNil))) aNil)) (agName 1) (aSeq (aSet 2 (aCl (sp_pot K) (aCons (aVar 0) (aCons (aVar 1) aNil))))
 (aSeq (aSet 3 (aCl (sp_rows K) (aCons (aVar 2) aNil)))
 (aSeq (aSet 4 (aCB aList (aCons (aVar 3) aNil)))
 (aSeq (aSet 5 (aMk (He.ga K "Rows") (sp_Rows_init K) (aCons (aVar 4) aNil)))
 (aSeq (aSet 6 (aMk (He.ga K "Rows") (sp_Rows_init K) (aCons (aRev (aVar 3)) aNil)))
 (aSeq (aIf (aOr (aTst (aOp (aEqD true) (aVar 4) (aVar 3))) (aOr (aNot (aTst (aCB (aIsi K (okT K)) (aCons (aVar 5) (aCons (aC (.own (He.ga K "Yard"))) aNil))))) (aTst (aCB (aIsi K (okT K)) (aCons (aVar 4) (aCons (aC (.own (He.ga K "Yard"))) aNil)))))) (aRet (aC (.bl false))) aNext)
 (aSeq (aDrop (aBM aClear (aVar 4) aNil))
 (aSeq (aSet 7 (aLst (aCons (aLst aNil) (aCons (aLRg1 (aCB aLen (aCons (aVar 3) aNil))) aNil))))
 (aSeq (aSet 7 (aOp aAdd (aVar 7) (aLc (aRng1 (aCons (aCl (sp_take K) (aCons (aVar 2) (aCons (aC (.int 7)) aNil))) aNil)) (agName 8) aYes (aCl (sp_heap K) (aCons (aVar 2) (aCons (aCB aLen (aCons (aVar 3) aNil)) aNil))) [8])))
 (aSeq (aFor (aIter (aVar 7)) (agName 9) (aIf (aNot (aTst (aCl (sp_worth_right K) (aCons (aVar 5) (aCons (aVar 6) (aCons (aVar 3) (aCons (aVar 9) aNil))))))) (aRet (aC (.bl false))) aNext))
 (aIf (aOr (aNot (aTst (aCl (sp_told K) (aCons (aVar 5) (aCons (aVar 3) aNil))))) (aNot (aTst (aCl (sp_told K) (aCons (aVar 6) (aCons (aRev (aVar 3)) aNil)))))) (aRet (aC (.bl false))) aNext))))))))))))
 (aRet (aC (.bl true))))
end A

namespace A
open PySem PySem.Spec L2 PyProof.Rows
local macro_rules | `(tactic| walk_at "A.go") => `(tactic| simp only [aSeq, aNext, aSet, aVar, atV_s, onB_b, onI_i, onII_i, onL1_i, onL2_i, it_l, it_t, it_s, it_x, ix_l, ix_t, ix_s, add_i, add_x, eq_i, eq_x, eq_b, is_b, aC, aNil, aCons, aOp, aUn, aTup, aLst, aCB, aNot, aAnd, aOr, aTst, aIfE, aAndV, aOrV, aNotV, aChn, aDrop, aRet, aRetN, aIf, agName, agNil, agCons, agTup, aAsg, aPar, aAug, aFor, aRng1, aRng2, aIter, aLc, aYes,
  aCl, aMt, aMk, aFl, aFst, aNeg, aI2, aI20, aLe, aLt, aGt, aGe, aSub, aMod, aMul, aFdv, aPow, aXor, aShl, aShr, agSub, aoN, aoS, aSl, aRev, aLen, aList, aTupOf, aLRg1, aLRg2, aAbs, aI2N, aMax, aMin, aDm, aAll, aAny, aBM, aApp, aPopAt, aPop, aClear, aRevM, aExt, aRepr, aClD, aLnSt, aIAdd, aBreak, aCont,
  aEnd, startA, List.map_cons, List.map_nil, List.cons_append, List.nil_append, List.length_cons, List.length_nil, List.replicate, List.getElem?_cons_zero, List.getElem?_cons_succ, List.set_cons_zero, List.set_cons_succ, Nat.reduceAdd, Nat.reduceSub, Nat.succ_eq_add_one, Int.reduceAdd, Int.reduceMul,
  reduceIte, Bool.false_eq_true, Bool.not_true, Bool.not_false, ite_true, ite_false])
theorem perm_ints {l : List D} {ns : List Int} (h : l.Perm (ns.map D.int)) : ∃ ks : List Int, l = ks.map D.int ∧ ks.Perm ns := by
  have all : ∀ d ∈ l, ∃ i, d = D.int i := fun d hd => by
    obtain ⟨i, _, e⟩ := List.mem_map.mp (h.mem_iff.mp hd)
    exact ⟨i, e.symm⟩
  have ex : ∀ l : List D, (∀ d ∈ l, ∃ i, d = D.int i) → ∃ ks : List Int, l = ks.map D.int := by
    intro l
    induction l with
    | nil => intro _; exact ⟨[], rfl⟩
    | cons d l ih =>
      intro h
      obtain ⟨i, rfl⟩ := h d List.mem_cons_self
      obtain ⟨ks, rfl⟩ := ih fun x hx => h x (List.mem_cons_of_mem _ hx)
      exact ⟨i :: ks, rfl⟩
  obtain ⟨ks, rfl⟩ := ex l all
  refine ⟨ks, rfl, ?_⟩
  have := h.map fun d => match d with | .int i => i | _ => 0
  rw [List.map_map, List.map_map] at this
  have e : ∀ l : List Int, List.map ((fun d => match d with | .int i => i | _ => 0) ∘ D.int) l = l := fun l => by
    induction l with
    | nil => rfl
    | cons a l ih => rw [List.map_cons, ih]; rfl
  rwa [e, e] at this
theorem NewL.ret {l : List D} {S : Sto} {Q : KD} (h : NewL l S Q) : NewL l S (Ret Q) := h.elim (fun q => .inl (A.ret q)) fun q => .inr fun a ha => A.ret (q a ha)
theorem atI_map {α β : Type} {l : List α} {f : α → β} {i : Int} {x : α} (h : l[i.toNat]? = some x) (h0 : 0 ≤ i) : atI (l.map f) i = some (f x) := by
  have := atI_nat (xs := l.map f) (j := i.toNat) (v := f x) (by rw [List.getElem?_map, h]; rfl)
  rwa [show ((i.toNat : Nat) : Int) = i by omega] at this
theorem in_ints {S : Sto} {a : Addr} {L : List Int} {i : Int} {neg : Bool} {Q : KD} (h : S a = some (.lst (L.map .int))) (q : Q (.bl (if neg then !decide (i ∈ L) else decide (i ∈ L))) S) : aIn neg (.int i) (.own a) S Q := by
  refine ⟨2, .int i, L.map .int, by decide, rfl, ?_, ?_⟩
  · rw [rd_own h]; exact rd_ints L
  · rw [any_ints]; exact q
theorem rd_asL {S : Sto} {d : D} {l : List D} (n : Nat) (h : asL S d = some l) : rd S (n + 1) d = rd S (n + 1) (.lst l) := by
  cases d with
  | lst m => cases h; rfl
  | own a => exact rd_own (asL_inv h)
  | _ => cases h
theorem smlAll_of : ∀ {l : List PyData}, (∀ x ∈ l, sml x = true) → smlAll l = true
  | [], _ => rfl
  | x :: l, h => by
    simp only [smlAll, h x List.mem_cons_self, smlAll_of fun y hy => h y (List.mem_cons_of_mem _ hy), Bool.and_self]
theorem weightAll_le {B : Nat} : ∀ {l : List PyData}, (∀ x ∈ l, x.weight ≤ B) → PyData.weightAll l ≤ l.length * (B + 1)
  | [], _ => Nat.zero_le _
  | x :: l, h => by
    have h1 := h x List.mem_cons_self
    have h2 := weightAll_le fun y hy => h y (List.mem_cons_of_mem _ hy)
    simp only [PyData.weightAll, List.length_cons]
    rw [Nat.succ_mul]
    omega
theorem weight_int {i : Int} (h : i.natAbs < 2 ^ 39) : (PyData.int i).weight ≤ 40 := by
  simp only [PyData.weight]
  split
  · omega
  · have := log2_small (n := i.natAbs) (k := 39) h (by decide)
    omega
end A

namespace A
open PySem PySem.Spec L2 PyProof.Rows
local macro_rules | `(tactic| walk_at "A.go") => `(tactic| simp only [aSeq, aNext, aSet, aVar, atV_s, onB_b, onI_i, onII_i, onL1_i, onL2_i, it_l, it_t, it_s, it_x, ix_l, ix_t, ix_s, add_i, add_x, eq_i, eq_x, eq_b, is_b, aC, aNil, aCons, aOp, aUn, aTup, aLst, aCB, aNot, aAnd, aOr, aTst, aIfE, aAndV, aOrV, aNotV, aChn, aDrop, aRet, aRetN, aIf, agName, agNil, agCons, agTup, aAsg, aPar, aAug, aFor, aRng1, aRng2, aIter, aLc, aYes,
  aCl, aMt, aMk, aFl, aFst, aNeg, aI2, aI20, aLe, aLt, aGt, aGe, aSub, aMod, aMul, aFdv, aPow, aXor, aShl, aShr, agSub, aoN, aoS, aSl, aRev, aLen, aList, aTupOf, aLRg1, aLRg2, aAbs, aI2N, aMax, aMin, aDm, aAll, aAny, aBM, aApp, aPopAt, aPop, aClear, aRevM, aExt, aRepr, aClD, aLnSt, aIAdd, aBreak, aCont,
  aEnd, startA, List.map_cons, List.map_nil, List.cons_append, List.nil_append, List.length_cons, List.length_nil, List.replicate, List.getElem?_cons_zero, List.getElem?_cons_succ, List.set_cons_zero, List.set_cons_succ, Nat.reduceAdd, Nat.reduceSub, Nat.succ_eq_add_one, Int.reduceAdd, Int.reduceMul,
  reduceIte, Bool.false_eq_true, Bool.not_true, Bool.not_false, ite_true, ite_false])
theorem nodup_le {n : Nat} : ∀ {L : List Int}, L.Nodup → (∀ x ∈ L, InR n x) → L.length ≤ n := by
  have main : ∀ (l m : List Int), l.Nodup → (∀ x ∈ l, x ∈ m) → l.length ≤ m.length := by
    intro l
    induction l with
    | nil => intro m _ _; exact Nat.zero_le _
    | cons a l ih =>
      intro m hn hs
      have hn' := List.nodup_cons.mp hn
      have ha := hs a List.mem_cons_self
      have := ih (m.erase a) hn'.2 fun x hx => (List.mem_erase_of_ne (by rintro rfl; exact hn'.1 hx)).mpr (hs x (List.mem_cons_of_mem _ hx))
      rw [List.length_erase_of_mem ha] at this
      have := List.length_pos_of_mem ha
      rw [List.length_cons]
      omega
  intro L h1 h2
  have := main L (rng n) h1 fun x hx => mem_rngI.mpr (h2 x hx)
  rwa [rng_length] at this
/-! ### union and find -/
structure UF (n : Nat) (vs : List Int) (rt : Int → Int) (dep : Int → Nat) : Prop where
  len : vs.length = n
  up : ∀ i v, InR n i → vs[i.toNat]? = some v → InR n v ∧ rt v = rt i ∧ (v = i ↔ rt i = i) ∧ (v ≠ i → dep v < dep i)
  rg : ∀ i, InR n i → InR n (rt i) ∧ rt (rt i) = rt i
theorem IsR.ins {K : PySem.W.Frag} {S : Sto} {y : Addr} {rs : List Nat} (h : IsR K S y rs) : insOf S (.own y) = some (He.ga K "Rows", rowsF rs) := by
  unfold insOf
  simp only [h.1]
theorem IsR.sub {K : PySem.W.Frag} {S S' : Sto} {y : Addr} {rs : List Nat} (h : IsR K S y rs) (s : Sub S S') : IsR K S' y rs := ⟨s _ _ h.1, h.2⟩
theorem law_is_number (K : PySem.W.Frag) : ∀ ds S Q E, sp_is_number K ds S Q E → a_is_number K (aEnd Q E) (startA ["thing", "many"] ds) S := by
  rintro ds S Q E ⟨i, m, rfl, q⟩
  unfold a_is_number
  walk_at "A.go"
  refine isi_ty rfl (fun _ z => nomatch z) kit_int_int ?_
  walk_at "A.go"
  refine isi_ty rfl (fun _ z => nomatch z) kit_int_bool ?_
  walk_at "A.go"
  cases h : decide (0 ≤ i) with
  | true => rw [h, Bool.true_and] at q; exact ret q
  | false => rw [h, Bool.false_and] at q; exact ret q
theorem law_is_heap (K : PySem.W.Frag) : ∀ ds S Q E, sp_is_heap K ds S Q E → a_is_heap K (aEnd Q E) (startA ["things", "many", "thing"] ds) S := by
  rintro ds S Q E ⟨d, m, hp, rfl, hd, ⟨hn, hr⟩, hm, q⟩
  unfold a_is_heap
  walk_at "A.go"
  refine isi_ty (tyD_asL hd) (fun _ z => nomatch z) kit_list_list ?_
  walk_at "A.go"
  refine iter_asL hd fun G hG => ?_
  refine aLcL_map (fun _ => .bl true) (hG S hd) ?_ (.inl ?_)
  · rintro d hd' k hk
    obtain ⟨i, hi, rfl⟩ := List.mem_map.mp hd'
    obtain ⟨i0, i1⟩ := hr i hi
    simp only [wipeA, List.set_cons_succ, List.set_cons_zero, aCl, aCons, aVar, aNil, List.getElem?_cons_zero, List.getElem?_cons_succ]
    refine ⟨i, m, rfl, ret ?_⟩
    rw [decide_eq_true i0, decide_eq_true i1]
    exact hk
  · refine ⟨_, _, List.replicate hp.length true, rfl, rfl, ?_, ?_⟩
    · rw [← blsOf_map]
      congr 1
      rw [List.map_map]
      show List.map (fun _ => D.bl true) hp = _
      rw [List.map_replicate]
      exact List.map_const' ..
    · have e : (List.replicate hp.length true).all id = true := by simp
      rw [e]
      walk_at "A.go"
      have hl := nodup_le hn hr
      exact ⟨_, hp, hd, intsOf_map hp, by omega, d, _, rfl, lenD_asL hd, ret (by
        rw [unl_nodup hn, List.length_map, decide_eq_true rfl]
        exact q)⟩
theorem law_Yard_init (K : PySem.W.Frag) : ∀ ds S Q E, sp_Yard_init K ds S Q E → a_Yard_init K (aEnd Q E) (startA ["self", "many", "nested"] ds) S := by
  rintro ds S Q E ⟨y, n, C, rfl, hy, hC, hn, q⟩
  unfold a_Yard_init
  walk_at "A.go"
  refine ⟨RgOk.of_le (by omega) (by omega) (by omega) (by omega), .inl ⟨y, C, _, rfl, hy, hC, by decide, y, C, _, rfl, put_same, hC, show (1 : Nat) < 1000 by decide, ret ?_⟩⟩
  rw [put_put]
  have e : rngD 0 ((n : Int)).toNat = (rng n).map .int := by rw [rngD0]; rfl
  rw [e]
  exact q
theorem law_Yard_many (K : PySem.W.Frag) : ∀ ds S Q E, sp_Yard_many K ds S Q E → a_Yard_many K (aEnd Q E) (startA ["self"] ds) S := by
  rintro ds S Q E ⟨y, rs, rfl, h, q⟩
  unfold a_Yard_many
  walk_at "A.go"
  exact ⟨_, _, _, h.ins, rfl, rfl, _, _, rfl, rfl, ret (by rw [List.length_map, rng_length]; exact q)⟩
theorem law_Yard_len (K : PySem.W.Frag) : ∀ ds S Q E, sp_Yard_len K ds S Q E → a_Yard_len K (aEnd Q E) (startA ["self"] ds) S := by
  rintro ds S Q E ⟨y, rs, rfl, h, q⟩
  unfold a_Yard_len
  walk_at "A.go"
  exact ⟨_, _, _, h.ins, rfl, rfl, _, _, rfl, rfl, ret (by rw [List.length_map, rng_length]; exact q)⟩
theorem law_Yard_things (K : PySem.W.Frag) : ∀ ds S Q E, sp_Yard_things K ds S Q E → a_Yard_things K (aEnd Q E) (startA ["self"] ds) S := by
  rintro ds S Q E ⟨y, rs, rfl, h, q⟩
  unfold a_Yard_things
  walk_at "A.go"
  exact ⟨_, _, _, h.ins, rfl, rfl, _, _, rfl, rfl, q.ret⟩
theorem law_want_list (K : PySem.W.Frag) : ∀ ds S Q E, sp_want_list K ds S Q E → a_want_list K (aEnd Q E) (startA ["things"] ds) S := by
  rintro ds S Q E ⟨d, l, rfl, hl, hz, q⟩
  unfold a_want_list
  walk_at "A.go"
  refine isi_ty (tyD_asL hl) (fun _ z => nomatch z) kit_list_list ?_
  walk_at "A.go"
  refine ⟨d, _, rfl, lenD_asL hl, ?_⟩
  rw [decide_eq_false (show ¬ (24 : Int) < l.length by omega)]
  exact ret q
theorem law_want_each (K : PySem.W.Frag) : ∀ ds S Q E, sp_want_each K ds S Q E → a_want_each K (aEnd Q E) (startA ["rights"] ds) S := by
  rintro ds S Q E ⟨d, bs, rfl, hl, hz, q⟩
  unfold a_want_each
  walk_at "A.go"
  refine ⟨d, _, bs, rfl, hl, blsOf_map bs, ?_⟩
  rw [hz]
  exact ret q
theorem law_is (K : PySem.W.Frag) : ∀ ds S Q E, sp_is K ds S Q E → a_is K (aEnd Q E) (startA ["_law_found", "_law_due"] ds) S := by
  rintro ds S Q E ⟨i, j, rfl, q⟩
  unfold a_is
  walk_at "A.go"
  refine isi_ty rfl (fun _ z => nomatch z) kit_int_int ?_
  walk_at "A.go"
  refine isi_ty rfl (fun _ z => nomatch z) kit_int_bool ?_
  walk_at "A.go"
  exact ret q
theorem law_heap (K : PySem.W.Frag) : ∀ ds S Q E, sp_heap K ds S Q E → a_heap K (aEnd Q E) (startA ["_law_pot_here", "_law_many"] ds) S := by
  rintro ds S Q E ⟨p, m, rfl, hp, hm, q⟩
  unfold a_heap
  walk_at "A.go"
  refine ⟨RgOk.of_le (by omega) (by omega) (by omega) (by omega), .inl ⟨p, _, _, rfl, hp, rfl, ?_, fun l' hl => ret ⟨p, _, rfl, hp, by omega, by omega, fun i i0 i1 => ret ?_⟩⟩⟩
  · rw [rngD_length]; omega
  · walk_at "A.go"
    have e0 : rngD 0 ((m : Int)).toNat = (rng m).map .int := by rw [rngD0]; rfl
    rw [e0] at hl
    obtain ⟨ks, rfl, hk⟩ : ∃ ks : List Int, l' = ks.map .int ∧ ks.Perm (rng m) := perm_ints hl
    have hc : cutD (ks.map D.int) none (some i) = (ks.take (HT.sIx ks.length ks.length (some i) - 0)).map .int := by
      unfold cutD
      rw [List.length_map, List.map_take]
      rfl
    refine ⟨_, rfl, .inl (ret ?_)⟩
    rw [hc]
    refine q _ ⟨(hk.nodup_iff.mpr rng_nodup).sublist (List.take_sublist _ _), fun j hj => mem_rngI.mp (hk.mem_iff.mp (List.mem_of_mem_take hj))⟩
theorem law_want_heap (K : PySem.W.Frag) : ∀ ds S Q E, sp_want_heap K ds S Q E → a_want_heap K (aEnd Q E) (startA ["yard", "heap"] ds) S := by
  rintro ds S Q E ⟨y, rs, d, hp, rfl, h, hd, hh, q⟩
  unfold a_want_heap
  walk_at "A.go"
  refine ⟨_, _, h.ins, rfl, rfl, y, rs, rfl, h, ret ⟨d, rs.length, hp, rfl, hd, hh, Nat.le_succ_of_le h.2.1, ret ?_⟩⟩
  walk_at "A.go"
  exact ret q
theorem law_Yard_worth (K : PySem.W.Frag) : ∀ ds S Q E, sp_Yard_worth K ds S Q E → a_Yard_worth K (aEnd Q E) (startA ["self", "heap"] ds) S := by
  rintro ds S Q E ⟨y, rs, d, hp, rfl, h, hd, hh, q⟩
  unfold a_Yard_worth
  walk_at "A.go"
  exact ⟨y, rs, d, hp, rfl, h, hd, hh, ret ⟨_, _, h.ins, rfl, rfl, d, _, rfl, itD_asL hd, .inl ⟨y, rs, _, hp, rfl, h, rfl, hh.2, ret (ret q)⟩⟩⟩
theorem law_Yard_whole (K : PySem.W.Frag) : ∀ ds S Q E, sp_Yard_whole K ds S Q E → a_Yard_whole K (aEnd Q E) (startA ["self"] ds) S := by
  rintro ds S Q E ⟨y, rs, rfl, h, q⟩
  unfold a_Yard_whole
  walk_at "A.go"
  exact ⟨_, _, h.ins, rfl, rfl, _, _, h.ins, rfl, rfl, y, rs, rfl, h, .inl (ret ⟨y, rs, _, _, rfl, h, rfl, fun i hi => mem_rngI.mp hi, ret (ret q)⟩)⟩
theorem law_Rows_rows (K : PySem.W.Frag) : ∀ ds S Q E, sp_Rows_rows K ds S Q E → a_Rows_rows K (aEnd Q E) (startA ["self"] ds) S := by
  rintro ds S Q E ⟨y, rs, rfl, h, q⟩
  unfold a_Rows_rows
  walk_at "A.go"
  exact ⟨_, _, _, h.ins, rfl, rfl, _, _, rfl, rfl, q.ret⟩
end A

namespace A
open PySem PySem.Spec L2 PyProof.Rows
local macro_rules | `(tactic| walk_at "A.go") => `(tactic| simp only [aSeq, aNext, aSet, aVar, atV_s, onB_b, onI_i, onII_i, onL1_i, onL2_i, it_l, it_t, it_s, it_x, ix_l, ix_t, ix_s, add_i, add_x, eq_i, eq_x, eq_b, is_b, aC, aNil, aCons, aOp, aUn, aTup, aLst, aCB, aNot, aAnd, aOr, aTst, aIfE, aAndV, aOrV, aNotV, aChn, aDrop, aRet, aRetN, aIf, agName, agNil, agCons, agTup, aAsg, aPar, aAug, aFor, aRng1, aRng2, aIter, aLc, aYes,
  aCl, aMt, aMk, aFl, aFst, aNeg, aI2, aI20, aLe, aLt, aGt, aGe, aSub, aMod, aMul, aFdv, aPow, aXor, aShl, aShr, agSub, aoN, aoS, aSl, aRev, aLen, aList, aTupOf, aLRg1, aLRg2, aAbs, aI2N, aMax, aMin, aDm, aAll, aAny, aBM, aApp, aPopAt, aPop, aClear, aRevM, aExt, aRepr, aClD, aLnSt, aIAdd, aBreak, aCont,
  aEnd, startA, List.map_cons, List.map_nil, List.cons_append, List.nil_append, List.length_cons, List.length_nil, List.replicate, List.getElem?_cons_zero, List.getElem?_cons_succ, List.set_cons_zero, List.set_cons_succ, Nat.reduceAdd, Nat.reduceSub, Nat.succ_eq_add_one, Int.reduceAdd, Int.reduceMul,
  reduceIte, Bool.false_eq_true, Bool.not_true, Bool.not_false, ite_true, ite_false])
theorem law_Rows_init (K : PySem.W.Frag) : ∀ ds S Q E, sp_Rows_init K ds S Q E → a_Rows_init K (aEnd Q E) (startA ["self", "rows", "row"] ds) S := by
  rintro ds S Q E ⟨y, d, rs, rfl, hy, hd, hne, hz, hl, q⟩
  unfold a_Rows_init
  walk_at "A.go"
  refine ⟨d, _, rfl, hd, by rw [List.length_map]; exact hz, ret ?_⟩
  refine iter_asL hd fun G hG => ?_
  refine aLcL_map (fun _ => .bl true) (hG S hd) ?_ (.inl ?_)
  · intro d' hd' k hk
    obtain ⟨e, he, rfl⟩ := List.mem_map.mp hd'
    have := hl e he
    simp only [wipeA, List.set_cons_succ, List.set_cons_zero]
    walk_at "A.go"
    refine ⟨e, 4096, rfl, ret ?_⟩
    rw [decide_eq_true (show (0 : Int) ≤ e by omega), decide_eq_true (show (e : Int) < 4096 by omega)]
    exact hk
  · refine ⟨_, List.replicate rs.length true, rfl, ?_, by simp, ret ?_⟩
    · show some (List.map (fun _ => D.bl true) (rs.map nD)) = _
      rw [List.map_replicate, List.map_map]
      exact congrArg some (List.map_const' ..)
    · refine ⟨d, _, rfl, lenD_asL hd, y, rs.length, He.ga K "Rows", by rw [List.length_map], hy, rfl, by omega, ret ?_⟩
      have up : ∀ c, asL (put S y c) d = some (rs.map nD) := fun c => by
        cases d with
        | lst m => exact hd
        | own a =>
          have : a ≠ y := by rintro rfl; exact hne rfl
          exact asL_own (by rw [put_ne this]; exact asL_inv hd)
        | _ => cases hd
      refine ⟨d, rs.map nD, rfl, itD_asL (up _), .inl ⟨y, _, _, rfl, put_same, rfl, show (2 : Nat) < 1000 by decide, ret ?_⟩⟩
      rw [put_put]
      exact q
theorem rowAt_get {rs : List Nat} {i : Int} (h : InR rs.length i) : rs[i.toNat]? = some (rowAt rs i) := by
  unfold rowAt
  have : i.toNat < rs.length := by have := h.1; have := h.2; omega
  rw [List.getD_eq_getElem?_getD, List.getElem?_eq_getElem this]
  rfl
theorem rowAt_low {rs : List Nat} {i : Int} (hl : Low rs) (h : InR rs.length i) : rowAt rs i < 2 ^ 12 := hl _ (List.mem_of_getElem? (rowAt_get h))
def frD (fr : List (Nat × Nat)) : List (Key × D) := fr.map fun p => (.inl (p.1 : Int), .int (p.2 : Int))
theorem frD_val {fr : List (Nat × Nat)} {k : Nat} : valA (frD fr) (.inl (k : Int)) = (fr.find? fun p => decide (p.1 = k)).map fun p => .int (p.2 : Int) := by
  unfold valA frD
  induction fr with
  | nil => rfl
  | cons p fr ih =>
    rw [List.map_cons, List.find?_cons, List.find?_cons]
    have e : decide ((Sum.inl (p.1 : Int) : Key) = .inl (k : Int)) = decide (p.1 = k) := by
      by_cases h : p.1 = k
      · subst h; simp
      · have : ¬ ((p.1 : Int) = k) := by omega
        simp [h, this]
    rw [e]
    cases decide (p.1 = k) with
    | true => rfl
    | false => exact ih
theorem frD_in {fr : List (Nat × Nat)} {k : Nat} : (valA (frD fr) (.inl (k : Int))).isSome = decide (k ∈ fr.map (·.1)) := by
  rw [frD_val]
  induction fr with
  | nil => rfl
  | cons p fr ih =>
    rw [List.find?_cons]
    by_cases h : p.1 = k
    · simp [h]
    · rw [decide_eq_false h]
      simp only
      rw [ih]
      simp [Ne.symm h]
theorem nodup_cast {l : List Nat} (h : l.Nodup) : (l.map fun (n : Nat) => (n : Int)).Nodup := List.Pairwise.map _ (fun a b (q : a ≠ b) z => q (by omega)) h
theorem frD_put {fr : List (Nat × Nat)} {k v : Nat} (h : k ∉ fr.map (·.1)) : putKA (frD fr) (.inl (k : Int)) (.int (v : Int)) = frD (fr ++ [(k, v)]) := by
  unfold putKA
  have e : ((frD fr).any fun p => decide (p.1 = .inl (k : Int))) = false := by
    refine Bool.eq_false_iff.mpr fun z => h ?_
    obtain ⟨p, hp, q⟩ := List.any_eq_true.mp z
    obtain ⟨r, hr, rfl⟩ := List.mem_map.mp hp
    have q2 := of_decide_eq_true q
    have : r.1 = k := by have := Sum.inl.inj q2; omega
    exact List.mem_map.mpr ⟨r, hr, this⟩
  rw [e, if_neg Bool.false_ne_true]
  unfold frD
  rw [List.map_append]
  rfl
theorem law_Rows_worth_of (K : PySem.W.Frag) : ∀ ds S Q E, sp_Rows_worth_of K ds S Q E → a_Rows_worth_of K (aEnd Q E) (startA ["self", "heap", "free", "thing", "row"] ds) S := by
  rintro ds S Q E ⟨y, rs, d, hp, rfl, h, hd, hr, q⟩
  unfold a_Rows_worth_of
  walk_at "A.go"
  simp only [aDNew]
  intro a ha
  have hSub : Sub S (put S a (.dct [])) := sub_del ha
  have hs : sizeLine = 16777216 := sizeLine_eq
  refine iter_asL (asL_sub hSub hd) fun G hG => ?_
  refine aLoop_inv (fun i ρ S' => ∃ fr b1 b2, ρ = [some (.own y), some d, some (.own a), b1, b2] ∧ S' a = some (.dct (frD fr)) ∧ (∀ c, ¬ c = a → S' c = S c) ∧ Red ((hp.take i).map (rowAt rs)).reverse fr) ?_ ?_ ?_
  · rintro i z ρ S' nx hi ⟨fr, b1, b2, rfl, hf, hoth, red⟩ hn
    rw [List.getElem?_map] at hi
    obtain ⟨k, hk, rfl⟩ := Option.map_eq_some_iff.mp hi
    have hkr := hr k (List.mem_of_getElem? hk)
    have sub' : Sub S S' := sub_but hoth (by rintro c rfl; exact ha)
    refine ⟨hG S' (asL_sub sub' hd), ?_⟩
    have hS' := sub' _ _ h.1
    have hins : insOf S' (.own y) = some (He.ga K "Rows", rowsF rs) := by unfold insOf; simp only [hS']
    walk_at "A.go"
    refine ⟨_, _, _, hins, rfl, rfl, ?_⟩
    walk_at "A.go"
    refine ⟨_, atI_map (rowAt_get hkr) hkr.1, ?_⟩
    have hlow := rowAt_low h.2.2 hkr
    have htk : ((hp.take (i + 1)).map (rowAt rs)).reverse = rowAt rs k :: ((hp.take i).map (rowAt rs)).reverse := by
      rw [List.take_add_one, hk]
      simp
    rw [htk] at hn
    have hll : ∀ x ∈ ((hp.take i).map (rowAt rs)).reverse, x < 2 ^ 12 := fun x hx => by
      obtain ⟨j, hj, rfl⟩ := List.mem_map.mp (List.mem_reverse.mp hx)
      exact rowAt_low h.2.2 (hr j (List.mem_of_mem_take hj))
    generalize ((hp.take i).map (rowAt rs)).reverse = l at red hn hll
    generalize rowAt rs k = r at hlow hn ⊢
    refine ⟨fun m ρ S2 => ∃ r', ρ = [some (.own y), some d, some (.own a), some (.int k), some (nD r')] ∧ S2 = S' ∧ Spn l (r ^^^ r') ∧ m = bl r', ⟨bl r, r, rfl, rfl, by rw [Nat.xor_self]; exact spn_zero l, rfl⟩, ?_⟩
    rintro m ρ S2 ⟨r', rfl, rfl, hsp, rfl⟩
    unfold nD
    walk_at "A.go"
    simp only [aDIn, aBits]
    walk_at "A.go"
    refine ⟨frD fr, _, dctOf_own hf, rfl, ?_⟩
    rw [bits_nat, frD_in]
    by_cases hb : bl r' ∈ fr.map (·.1)
    · rw [decide_eq_true hb]
      walk_at "A.go"
      simp only [aDIx, aBits]
      walk_at "A.go"
      obtain ⟨p, hp1, hp2⟩ := List.mem_map.mp hb
      have hfind : ∃ p', (fr.find? fun p => decide (p.1 = bl r')) = some p' := by
        cases e : fr.find? fun p => decide (p.1 = bl r') with
        | some p' => exact ⟨p', rfl⟩
        | none =>
          have := List.find?_eq_none.mp e p hp1
          exact (this (decide_eq_true hp2)).elim
      obtain ⟨p', hp'⟩ := hfind
      have hm := List.mem_of_find?_eq_some hp'
      have hbl := of_decide_eq_true (List.find?_some (p := fun p : Nat × Nat => decide (p.1 = bl r')) hp')
      obtain ⟨g1, g2, g3⟩ := red.bit p' hm
      refine ⟨frD fr, .inl (bl r' : Nat), .int (p'.2 : Int), dctOf_own hf, by rw [bits_nat]; rfl, by rw [frD_val, hp']; rfl, ?_⟩
      walk_at "A.go"
      have hx : Builtin.bitXor (r' : Int) (p'.2 : Int) = ((r' ^^^ p'.2 : Nat) : Int) := xor_nat _ _
      rw [hx]
      have hr0 : r' ≠ 0 := by
        rintro rfl
        rw [bl_zero] at hbl
        have := bl_pos g1
        omega
      refine ⟨bl (r' ^^^ p'.2), bl_xor_eq hr0 (by omega), r' ^^^ p'.2, rfl, trivial, ?_, rfl⟩
      rw [← Nat.xor_assoc]
      exact spn_xor hsp g3
    · rw [decide_eq_false hb]
      walk_at "A.go"
      by_cases h0 : r' = 0
      · subst h0
        rw [decide_eq_false (show ¬ (0 : Int) < ((0 : Nat) : Int) by omega)]
        walk_at "A.go"
        rw [Nat.xor_zero] at hsp
        exact hn _ _ ⟨fr, _, _, rfl, hf, hoth, red_sum red hsp⟩
      · rw [decide_eq_true (show (0 : Int) < (r' : Int) by omega)]
        walk_at "A.go"
        simp only [aDPut, aBits]
        walk_at "A.go"
        have hfl : fr.length ≤ 1000 := by
          have hb := nodup_le (n := 13) (L := (fr.map (·.1)).map fun (n : Nat) => (n : Int)) (nodup_cast red.nd) fun x hx => by
            obtain ⟨n, hn1, rfl⟩ := List.mem_map.mp hx
            obtain ⟨p, hp1, rfl⟩ := List.mem_map.mp hn1
            obtain ⟨g1, g2, g3⟩ := red.bit p hp1
            have := bl_le.mpr (spn_lt hll g3)
            exact ⟨by omega, by omega⟩
          rw [List.length_map, List.length_map] at hb
          omega
        refine ⟨a, frD fr, .inl (bl r' : Nat), rfl, hf, by rw [bits_nat]; rfl, by unfold frD; rw [List.length_map]; omega, ?_⟩
        refine hn _ _ ⟨fr ++ [(bl r', r')], _, _, rfl, ?_, fun c hc => by rw [put_ne hc]; exact hoth c hc, red_new red hsp h0 hb⟩
        rw [put_same, frD_put hb]
  · rintro ρ S' ⟨fr, b1, b2, rfl, hf, hoth, red⟩
    have sub' : Sub S S' := sub_but hoth (by rintro c rfl; exact ha)
    refine ⟨hG S' (asL_sub sub' hd), ?_⟩
    walk_at "A.go"
    simp only [aLenD]
    rw [List.length_map, List.take_length] at red
    refine ⟨_, frD fr, rfl, dctOf_own hf, ret_drop ?_ sub'⟩
    have e : (frD fr).length = worthR rs hp := by unfold frD; rw [List.length_map]; exact red.len
    rw [e]
    exact q
  · exact ⟨[], none, none, rfl, put_same, fun c hc => put_ne hc, red_nil⟩
end A

namespace A
open PySem PySem.Spec L2 PyProof.Rows
local macro_rules | `(tactic| walk_at "A.go") => `(tactic| simp only [aSeq, aNext, aSet, aVar, atV_s, onB_b, onI_i, onII_i, onL1_i, onL2_i, it_l, it_t, it_s, it_x, ix_l, ix_t, ix_s, add_i, add_x, eq_i, eq_x, eq_b, is_b, aC, aNil, aCons, aOp, aUn, aTup, aLst, aCB, aNot, aAnd, aOr, aTst, aIfE, aAndV, aOrV, aNotV, aChn, aDrop, aRet, aRetN, aIf, agName, agNil, agCons, agTup, aAsg, aPar, aAug, aFor, aRng1, aRng2, aIter, aLc, aYes,
  aCl, aMt, aMk, aFl, aFst, aNeg, aI2, aI20, aLe, aLt, aGt, aGe, aSub, aMod, aMul, aFdv, aPow, aXor, aShl, aShr, agSub, aoN, aoS, aSl, aRev, aLen, aList, aTupOf, aLRg1, aLRg2, aAbs, aI2N, aMax, aMin, aDm, aAll, aAny, aBM, aApp, aPopAt, aPop, aClear, aRevM, aExt, aRepr, aClD, aLnSt, aIAdd, aBreak, aCont,
  aEnd, startA, List.map_cons, List.map_nil, List.cons_append, List.nil_append, List.length_cons, List.length_nil, List.replicate, List.getElem?_cons_zero, List.getElem?_cons_succ, List.set_cons_zero, List.set_cons_succ, Nat.reduceAdd, Nat.reduceSub, Nat.succ_eq_add_one, Int.reduceAdd, Int.reduceMul,
  reduceIte, Bool.false_eq_true, Bool.not_true, Bool.not_false, ite_true, ite_false])
def sdD (ks : List Nat) : List (Key × D) := ks.map fun (k : Nat) => (.inl (k : Int), .bl true)
theorem sdD_in {ks : List Nat} {k : Nat} : (valA (sdD ks) (.inl (k : Int))).isSome = decide (k ∈ ks) := by
  unfold valA sdD
  induction ks with
  | nil => rfl
  | cons p ks ih =>
    rw [List.map_cons, List.find?_cons]
    by_cases h : p = k
    · subst h; simp
    · have e : decide ((Sum.inl (p : Int) : Key) = .inl (k : Int)) = false := decide_eq_false fun z => h (by have := Sum.inl.inj z; omega)
      rw [e]
      simp only
      rw [ih]
      simp [Ne.symm h]
theorem sdD_put {ks : List Nat} {k : Nat} : putKA (sdD ks) (.inl (k : Int)) (.bl true) = sdD (if k ∈ ks then ks else ks ++ [k]) := by
  unfold putKA
  have e : ((sdD ks).any fun p => decide (p.1 = .inl (k : Int))) = decide (k ∈ ks) := by
    unfold sdD
    induction ks with
    | nil => rfl
    | cons p ks ih =>
      rw [List.map_cons, List.any_cons, ih]
      by_cases h : p = k
      · subst h; simp
      · have e : decide ((Sum.inl (p : Int) : Key) = .inl (k : Int)) = false := decide_eq_false fun z => h (by have := Sum.inl.inj z; omega)
        rw [e]
        simp [Ne.symm h]
  rw [e]
  by_cases h : k ∈ ks
  · rw [decide_eq_true h, if_pos rfl, if_pos h]
    unfold sdD
    rw [List.map_map]
    refine List.map_congr_left fun j _ => ?_
    show (if (Sum.inl (j : Int) : Key) = .inl (k : Int) then _ else _) = _
    split <;> rfl
  · rw [decide_eq_false h, if_neg Bool.false_ne_true, if_neg h]
    unfold sdD
    rw [List.map_append]
    rfl
theorem law_free (K : PySem.W.Frag) : ∀ ds S Q E, sp_free K ds S Q E → a_free K (aEnd Q E) (startA ["_law_rows_here", "_law_sums", "_law_many", "_law_row", "_law_one"] ds) S := by
  rintro ds S Q E ⟨l, rfl, hl, q⟩
  unfold a_free
  walk_at "A.go"
  simp only [aDsp1]
  intro a ha
  have hs : sizeLine = 16777216 := sizeLine_eq
  refine aLoop_inv (fun i ρ S' => ∃ ks b1 b2, ρ = [some (.lst (l.map nD)), some (.own a), some (.int (rk (l.take i).reverse : Nat)), b1, b2] ∧ S' a = some (.dct (sdD ks)) ∧ (∀ c, ¬ c = a → S' c = S c) ∧ ks.Nodup ∧
    ∀ x, x ∈ ks ↔ Spn (l.take i).reverse x) ?_ ?_ ?_
  · rintro i z ρ S' nx hi ⟨ks, b1, b2, rfl, hk, hoth, hnd, hin⟩ hn
    rw [List.getElem?_map] at hi
    obtain ⟨r, hr, rfl⟩ := Option.map_eq_some_iff.mp hi
    have hlow := hl r (List.mem_of_getElem? hr)
    have htk : (l.take (i + 1)).reverse = r :: (l.take i).reverse := by
      rw [List.take_add_one, hr]
      simp
    rw [htk] at hn
    have hll : ∀ x ∈ (l.take i).reverse, x < 2 ^ 12 := fun x hx => hl x (List.mem_of_mem_take (List.mem_reverse.mp hx))
    generalize (l.take i).reverse = t at hin hn hll ⊢
    refine ⟨trivial, ?_⟩
    unfold nD
    walk_at "A.go"
    simp only [aDIn]
    walk_at "A.go"
    refine ⟨sdD ks, .inl (r : Int), dctOf_own hk, rfl, ?_⟩
    rw [sdD_in]
    by_cases hm : r ∈ ks
    · rw [decide_eq_true hm]
      walk_at "A.go"
      have hsp := (hin r).mp hm
      have er : rk (r :: t) = rk t := by simp only [rk, if_pos hsp, Nat.add_zero]
      exact hn _ _ ⟨ks, some (.int r), b2, by rw [er]; rfl, hk, hoth, hnd, fun x => ⟨fun h => .inl ((hin x).mp h), fun h => (hin x).mpr (h.elim id fun h => spn_back h hsp)⟩⟩
    · rw [decide_eq_false hm]
      walk_at "A.go"
      have hnsp : ¬ Spn t r := fun h => hm ((hin r).mpr h)
      simp only [aListD]
      refine ⟨_, sdD ks, rfl, dctOf_own hk, .inl ?_⟩
      walk_at "A.go"
      have ek : (sdD ks).map (fun p => dKey p.1) = ks.map nD := by unfold sdD; rw [List.map_map]; rfl
      rw [ek]
      refine aLoop_inv (fun j ρ S2 => ∃ ks2 b, ρ = [some (.lst (l.map nD)), some (.own a), some (.int (rk t : Nat)), some (.int (r : Int)), b] ∧ S2 a = some (.dct (sdD ks2)) ∧ (∀ c, ¬ c = a → S2 c = S c) ∧ ks2.Nodup ∧
        (∀ x, x ∈ ks2 ↔ x ∈ ks ∨ ∃ y ∈ ks.take j, x = y ^^^ r)) ?_ ?_ ?_
      · rintro j z ρ S2 nx2 hj ⟨ks2, b, rfl, hk2, hoth2, hnd2, hin2⟩ hn2
        rw [List.getElem?_map] at hj
        obtain ⟨y, hy, rfl⟩ := Option.map_eq_some_iff.mp hj
        refine ⟨trivial, ?_⟩
        unfold nD
        walk_at "A.go"
        simp only [aDPut]
        walk_at "A.go"
        have hx : Builtin.bitXor (y : Int) (r : Int) = ((y ^^^ r : Nat) : Int) := xor_nat _ _
        rw [hx]
        have low : ∀ x ∈ ks2, x < 2 ^ 12 := fun x hx => by
          rcases (hin2 x).mp hx with h | ⟨u, hu, rfl⟩
          · exact spn_lt hll ((hin x).mp h)
          · exact Nat.xor_lt_two_pow (spn_lt hll ((hin u).mp (List.mem_of_mem_take hu))) hlow
        have hlen := nodup_le (n := 4096) (nodup_cast hnd2) fun x hx => by
          obtain ⟨n, hn1, rfl⟩ := List.mem_map.mp hx
          have := low n hn1
          exact ⟨by omega, by omega⟩
        rw [List.length_map] at hlen
        refine ⟨a, sdD ks2, .inl ((y ^^^ r : Nat) : Int), rfl, hk2, rfl, by unfold sdD; rw [List.length_map]; omega, ?_⟩
        rw [sdD_put]
        have htj : ks.take (j + 1) = ks.take j ++ [y] := by rw [List.take_add_one, hy]; rfl
        refine hn2 _ _ ⟨_, _, rfl, put_same, fun c hc => by rw [put_ne hc]; exact hoth2 c hc, ?_, fun x => ?_⟩
        · split
          · exact hnd2
          · rename_i hno
            rw [List.nodup_append]
            refine ⟨hnd2, by simp, fun u hu v hv => ?_⟩
            rw [List.mem_singleton.mp hv]
            rintro rfl
            exact hno hu
        · rw [htj]
          have base : x ∈ (if y ^^^ r ∈ ks2 then ks2 else ks2 ++ [y ^^^ r]) ↔ x ∈ ks2 ∨ x = y ^^^ r := by
            split
            · rename_i h
              exact ⟨.inl, fun z => z.elim id fun z => by rw [z]; exact h⟩
            · rw [List.mem_append, List.mem_singleton]
          rw [base, hin2]
          simp only [List.mem_append, List.mem_singleton]
          constructor
          · rintro ((h | ⟨u, hu, e⟩) | h)
            · exact .inl h
            · exact .inr ⟨u, .inl hu, e⟩
            · exact .inr ⟨y, .inr rfl, h⟩
          · rintro (h | ⟨u, hu | rfl, e⟩)
            · exact .inl (.inl h)
            · exact .inl (.inr ⟨u, hu, e⟩)
            · exact .inr e
      · rintro ρ S2 ⟨ks2, b, rfl, hk2, hoth2, hnd2, hin2⟩
        refine ⟨trivial, ?_⟩
        walk_at "A.go"
        rw [List.length_map, List.take_length] at hin2
        have er : rk (r :: t) = rk t + 1 := by simp only [rk, if_neg hnsp]
        refine hn _ _ ⟨ks2, some (.int r), b, by rw [er]; rfl, hk2, hoth2, hnd2, fun x => ?_⟩
        · rw [hin2]
          constructor
          · rintro (h | ⟨u, hu, rfl⟩)
            · exact .inl ((hin x).mp h)
            · exact .inr (by rw [xor_xor_self]; exact (hin u).mp hu)
          · rintro (h | h)
            · exact .inl ((hin x).mpr h)
            · exact .inr ⟨x ^^^ r, (hin _).mpr h, (xor_xor_self x r).symm⟩
      · exact ⟨ks, _, rfl, hk, hoth, hnd, fun x => ⟨.inl, fun h => h.elim id fun ⟨u, hu, _⟩ => by simp at hu⟩⟩
  · rintro ρ S' ⟨ks, b1, b2, rfl, hk, hoth, hnd, hin⟩
    refine ⟨trivial, ?_⟩
    walk_at "A.go"
    rw [List.length_map, List.take_length]
    exact ret_drop q (sub_but hoth (by rintro c rfl; exact ha))
  · exact ⟨[0], none, none, rfl, put_same, fun c hc => put_ne hc, by simp, fun x => by simp [Spn]⟩
end A

namespace A
open PySem PySem.Spec L2 PyProof.Rows
local macro_rules | `(tactic| walk_at "A.go") => `(tactic| simp only [aSeq, aNext, aSet, aVar, atV_s, onB_b, onI_i, onII_i, onL1_i, onL2_i, it_l, it_t, it_s, it_x, ix_l, ix_t, ix_s, add_i, add_x, eq_i, eq_x, eq_b, is_b, aC, aNil, aCons, aOp, aUn, aTup, aLst, aCB, aNot, aAnd, aOr, aTst, aIfE, aAndV, aOrV, aNotV, aChn, aDrop, aRet, aRetN, aIf, agName, agNil, agCons, agTup, aAsg, aPar, aAug, aFor, aRng1, aRng2, aIter, aLc, aYes,
  aCl, aMt, aMk, aFl, aFst, aNeg, aI2, aI20, aLe, aLt, aGt, aGe, aSub, aMod, aMul, aFdv, aPow, aXor, aShl, aShr, agSub, aoN, aoS, aSl, aRev, aLen, aList, aTupOf, aLRg1, aLRg2, aAbs, aI2N, aMax, aMin, aDm, aAll, aAny, aBM, aApp, aPopAt, aPop, aClear, aRevM, aExt, aRepr, aClD, aLnSt, aIAdd, aBreak, aCont,
  aEnd, startA, List.map_cons, List.map_nil, List.cons_append, List.nil_append, List.length_cons, List.length_nil, List.replicate, List.getElem?_cons_zero, List.getElem?_cons_succ, List.set_cons_zero, List.set_cons_succ, Nat.reduceAdd, Nat.reduceSub, Nat.succ_eq_add_one, Int.reduceAdd, Int.reduceMul,
  reduceIte, Bool.false_eq_true, Bool.not_true, Bool.not_false, ite_true, ite_false])
theorem law_rows (K : PySem.W.Frag) : ∀ ds S Q E, sp_rows K ds S Q E → a_rows K (aEnd Q E) (startA ["_law_pot_here", "_law_wide", "_law_many", "_law_rows_here", "_law_k", "_law_row", "_law_way"] ds) S := by
  rintro ds S Q E ⟨p, rfl, hp, q⟩
  unfold a_rows
  walk_at "A.go"
  have hs : sizeLine = 16777216 := sizeLine_eq
  refine ⟨by rw [hs]; decide, .inl ⟨p, 4, rfl, hp, by decide, by decide, fun i i0 i1 => ret ?_⟩⟩
  walk_at "A.go"
  have hw : ∃ w : Int, atI [D.int 4, D.int 16, D.int 64, D.int 4096] i = some (.int w) ∧ 0 < w ∧ w ≤ 4096 := by
    rcases (show i = 0 ∨ i = 1 ∨ i = 2 ∨ i = 3 by omega) with rfl | rfl | rfl | rfl
    · exact ⟨4, rfl, by decide, by decide⟩
    · exact ⟨16, rfl, by decide, by decide⟩
    · exact ⟨64, rfl, by decide, by decide⟩
    · exact ⟨4096, rfl, by decide, by decide⟩
  obtain ⟨w, ew, w0, w1⟩ := hw
  refine ⟨_, ew, p, 25, rfl, hp, by decide, by decide, fun u u0 u1 => ret ⟨p, 10, rfl, hp, by decide, by decide, fun v v0 v1 => ret ⟨by rw [hs]; decide, .inl ⟨p, 3, rfl, hp, by decide, by decide, fun t t0 t1 => ret ?_⟩⟩⟩⟩
  walk_at "A.go"
  have hz : ∃ z : Int, atI [D.int 24, D.int u, D.int v] t = some (.int z) ∧ 0 ≤ z ∧ z ≤ 24 := by
    rcases (show t = 0 ∨ t = 1 ∨ t = 2 by omega) with rfl | rfl | rfl
    · exact ⟨24, rfl, by decide, by decide⟩
    · exact ⟨u, rfl, u0, by omega⟩
    · exact ⟨v, rfl, v0, by omega⟩
  obtain ⟨z, ez, z0, z1⟩ := hz
  refine ⟨_, ez, Nat.zero_le _, .inr fun a ha => ?_⟩
  walk_at "A.go"
  refine ⟨by omega, by omega, ?_⟩
  have pa : p ≠ a := by rintro rfl; rw [ha] at hp; cases hp
  refine aLoop_inv (fun j ρ S' => ∃ rs b1 b2 b3, ρ = [some (.own p), some (.int w), some (.int z), some (.own a), b1, b2, b3] ∧ S' a = some (.lst (rs.map nD)) ∧ (∀ c, ¬ c = a → S' c = S c) ∧ Low rs ∧ rs.length = j) ?_ ?_ ⟨[], none, none, none, rfl, put_same, fun c hc => put_ne hc, (fun r hr => (List.not_mem_nil hr).elim), rfl⟩
  · rintro j x ρ S' nx hj ⟨rs, b1, b2, b3, rfl, hl, hoth, hlow, hlen⟩ hn
    have hj' := (List.getElem?_eq_some_iff.mp hj).1
    rw [rngD_length] at hj'
    have sp' : S' p = some .pot := by rw [hoth p pa]; exact hp
    refine ⟨trivial, ?_⟩
    walk_at "A.go"
    refine ⟨p, w, rfl, sp', w0, by omega, fun r r0 r1 => ret ⟨p, 5, rfl, sp', by decide, by decide, fun y y0 y1 => ret ⟨Nat.zero_le _, .inl ?_⟩⟩⟩
    have fin : ∀ n : Nat, n < 2 ^ 12 → (∃ l, asL S' (.own a) = some l) ∧ ∃ a_1 l x_1, D.own a = D.own a_1 ∧ S' a_1 = some (Cell.lst l) ∧ [D.int (n : Int)] = [x_1] ∧ l.length < sizeLine ∧ nx [some (.own p), some (.int w), some (.int z), some (.own a), some x, some (.int (n : Int)), some (.int y)] (put S' a_1 (Cell.lst (l ++ [x_1]))) := by
      intro n h
      refine ⟨⟨_, asL_own hl⟩, a, _, _, rfl, hl, rfl, by rw [List.length_map, hs]; omega, hn _ _ ⟨rs ++ [n], _, _, _, rfl, by rw [put_same, List.map_append]; rfl, fun c hc => by rw [put_ne hc]; exact hoth c hc, fun x hx => ?_, by simp; omega⟩⟩
      rcases List.mem_append.mp hx with hx | hx
      · exact hlow x hx
      · rw [List.mem_singleton.mp hx]; exact h
    have rdp : ∃ pp, rd S' 2 (.own a) = some (.list pp) ∧ PyData.eqv (.list pp) (.list []) = rs.isEmpty := by
      refine ⟨(rs.map fun (n : Nat) => (n : Int)).map PyData.int, ?_, ?_⟩
      · rw [rd_own hl]
        have := rd_ints (S := S') (n := 0) (rs.map fun (n : Nat) => (n : Int))
        rwa [List.map_map] at this
      · cases rs <;> simp [PyData.eqv, PyData.eqvAll]
    obtain ⟨pp, e1, e2⟩ := rdp
    refine ⟨2, _, .list [], by decide, e1, rfl, ?_⟩
    rw [if_pos rfl, e2]
    walk_at "A.go"
    have er : (r : Int) = ((r.toNat : Nat) : Int) := by omega
    have fr := fin r.toNat (by omega)
    rw [← er] at fr
    cases hrs : rs with
    | nil => exact fr
    | cons e0 er' =>
      show (if (!false) = true then _ else _)
      simp only [Bool.not_false, if_true]
      by_cases hy : y < 2
      · rw [decide_eq_true hy]
        walk_at "A.go"
        have am : ∀ {Q' : KD} {E' : KX}, (∀ n ∈ rs, Q' (.int (n : Int)) S') → sp_among K [.own p, .own a] S' Q' E' := fun h => ⟨p, _, _, rfl, sp', asL_own hl, by rw [hrs]; simp, by rw [List.length_map]; omega, fun x hx => by
          obtain ⟨n, hn1, rfl⟩ := List.mem_map.mp hx
          exact h n hn1⟩
        refine am fun n1 h1 => ret (am fun n2 h2 => ret (am fun n3 h3 => ret ?_))
        walk_at "A.go"
        have hx : Builtin.bitXor (n2 : Int) (n3 : Int) = ((n2 ^^^ n3 : Nat) : Int) := xor_nat _ _
        rw [hx]
        refine ⟨by rw [hs]; decide, .inl ?_⟩
        rcases (show y = 0 ∨ y = 1 by omega) with rfl | rfl
        · exact ⟨_, rfl, fin n1 (hlow n1 h1)⟩
        · exact ⟨_, rfl, fin (n2 ^^^ n3) (Nat.xor_lt_two_pow (hlow n2 h2) (hlow n3 h3))⟩
      · rw [decide_eq_false hy]
        walk_at "A.go"
        exact fr
  · rintro ρ S' ⟨rs, b1, b2, b3, rfl, hl, hoth, hlow, hlen⟩
    refine ⟨trivial, ?_⟩
    walk_at "A.go"
    rw [rngD_length] at hlen
    exact ret_freeze (q rs (by omega) hlow) (sub_but hoth (by rintro c rfl; exact ha)) hl ha
theorem map_rowAt (rs : List Nat) : (rng rs.length).map (rowAt rs) = rs := by
  refine List.ext_getElem? fun i => ?_
  rw [List.getElem?_map]
  by_cases h : i < rs.length
  · rw [rng_get h]
    have := rowAt_get (rs := rs) (i := (i : Int)) ⟨by omega, by omega⟩
    rw [show ((i : Int)).toNat = i by omega] at this
    exact this.symm
  · rw [List.getElem?_eq_none (by rw [rng_length]; omega), List.getElem?_eq_none (by omega)]
    rfl
theorem rd_nats {S : Sto} (n : Nat) (rs : List Nat) : rd S (n + 2) (.lst (rs.map nD)) = some (.list ((rs.map fun (n : Nat) => (n : Int)).map PyData.int)) := by
  have := rd_ints (S := S) (n := n) (rs.map fun (n : Nat) => (n : Int))
  rwa [List.map_map] at this
theorem law_told (K : PySem.W.Frag) : ∀ ds S Q E, sp_told K ds S Q E → a_told K (aEnd Q E) (startA ["_law_yard", "_law_rows_here", "_law_every", "_law_told_here"] ds) S := by
  rintro ds S Q E ⟨y, rs, rfl, h, q⟩
  unfold a_told
  walk_at "A.go"
  have hes := h.2.1
  have ld : ∀ S : Sto, lenD S (.lst (rs.map nD)) = some rs.length := fun S => by show some _ = some _; rw [List.length_map]
  refine ⟨_, _, rfl, ld _, RgOk.of_le (by omega) (by omega) (by omega) (by omega), .inl ?_⟩
  have e0 : rngD 0 ((rs.length : Int)).toNat = (rng rs.length).map .int := by rw [rngD0]; rfl
  rw [e0]
  refine ⟨_, _, h.ins, rfl, rfl, y, rs, rfl, h, .inr fun a ha => ret ?_⟩
  have s1 : Sub S (put S a (.lst ((rng rs.length).map .int))) := sub_del ha
  have h1 := h.sub s1
  refine ⟨_, _, h1.ins, rfl, rfl, y, rs, rfl, h1, .inr fun b hb => ret ?_⟩
  have ab : a ≠ b := by rintro rfl; rw [put_same] at hb; cases hb
  have s2 := s1.trans (sub_del (c := .lst (rs.map nD)) hb)
  have h2 := h.sub s2
  generalize hS2 : put (put S a (.lst ((rng rs.length).map .int))) b (.lst (rs.map nD)) = S2 at *
  have gb : S2 b = some (.lst (rs.map nD)) := by rw [← hS2, put_same]
  have ga : S2 a = some (.lst ((rng rs.length).map .int)) := by rw [← hS2, put_ne ab, put_same]
  have two : 2 ≤ sizeLine := by rw [sizeLine_eq]; decide
  refine ⟨two, .inl ?_⟩
  have hnum : rd S2 4 (.own a) = some (.list ((rng rs.length).map .int)) := by rw [rd_own ga]; exact rd_ints (n := 2) _
  have hprs : rd S2 4 (.own b) = some (.list ((rs.map fun (n : Nat) => (n : Int)).map .int)) := by rw [rd_own gb]; exact rd_nats 2 rs
  have rd2 : ∀ x z p q, rd S2 4 x = some p → rd S2 4 z = some q → rd S2 5 (.lst [x, z]) = some (.list [p, q]) := fun x z p q h1 h2 => by
    show (rdL (rd S2 4) [x, z]).map PyData.list = _
    simp only [rdL, h1, h2]
    rfl
  have sm : sml (.list [.list ((rng rs.length).map .int), .list ((rs.map fun (n : Nat) => (n : Int)).map .int)]) = true := by
    simp only [sml, smlAll, Bool.and_true, Bool.and_eq_true]
    refine ⟨smlAll_of fun x hx => ?_, smlAll_of fun x hx => ?_⟩
    · obtain ⟨i, hi, rfl⟩ := List.mem_map.mp hx
      have := (mem_rngI.mp hi).1; have := (mem_rngI.mp hi).2
      simp only [sml, decide_eq_true_eq]
      omega
    · obtain ⟨i, hi, rfl⟩ := List.mem_map.mp hx
      obtain ⟨n, hn, rfl⟩ := List.mem_map.mp hi
      have := h.2.2 n hn
      simp only [sml, decide_eq_true_eq]
      omega
  have wt : (PyData.list [.list ((rng rs.length).map .int), .list ((rs.map fun (n : Nat) => (n : Int)).map .int)]).weight ≤ 2 ^ 20 := by
    simp only [PyData.weight, PyData.weightAll]
    have g1 : PyData.weightAll ((rng rs.length).map .int) ≤ ((rng rs.length).map PyData.int).length * (40 + 1) := weightAll_le fun x hx => by
      obtain ⟨i, hi, rfl⟩ := List.mem_map.mp hx
      have := (mem_rngI.mp hi).1; have := (mem_rngI.mp hi).2
      exact weight_int (by omega)
    have g2 : PyData.weightAll ((rs.map fun (n : Nat) => (n : Int)).map .int) ≤ ((rs.map fun (n : Nat) => (n : Int)).map PyData.int).length * (40 + 1) := weightAll_le fun x hx => by
      obtain ⟨i, hi, rfl⟩ := List.mem_map.mp hx
      obtain ⟨n, hn, rfl⟩ := List.mem_map.mp hi
      have := h.2.2 n hn
      exact weight_int (by omega)
    rw [List.length_map, rng_length] at g1
    rw [List.length_map, List.length_map] at g2
    omega
  refine ⟨_, 5, _, rfl, by decide, rd2 _ _ _ _ hnum hprs, .inl ⟨_, rfl⟩, sm, wt, two, .inl ⟨_, 5, _, rfl, by decide, rd2 _ _ _ _ (rd_ints (n := 2) _) (rd_nats 2 rs), .inl ⟨_, rfl⟩, sm, wt, ?_⟩⟩
  rw [decide_eq_true rfl]
  walk_at "A.go"
  have hs : sizeLine = 16777216 := sizeLine_eq
  refine ⟨_, rfl, ⟨_, asL_own ga⟩, a, _, _, rfl, ga, rfl, by rw [List.length_map, rng_length]; omega, ?_⟩
  have gb3 : put S2 a (.lst ((rng rs.length).map .int ++ [.int 0])) b = some (.lst (rs.map nD)) := by rw [put_ne (Ne.symm ab)]; exact gb
  refine ⟨_, rfl, ⟨_, asL_own gb3⟩, b, _, rfl, gb3, trivial, ?_⟩
  have s4 : Sub S (put (put S2 a (.lst ((rng rs.length).map .int ++ [.int 0]))) b (.lst [])) := by
    refine sub_but (P := fun c => c = a ∨ c = b) (fun c hc => ?_) ?_
    · rw [put_ne (fun z => hc (.inr z)), put_ne (fun z => hc (.inl z)), ← hS2, put_ne (fun z => hc (.inr z)), put_ne (fun z => hc (.inl z))]
    · rintro c (rfl | rfl)
      · exact ha
      · rw [put_ne (Ne.symm ab)] at hb; exact hb
  generalize put (put S2 a (.lst ((rng rs.length).map .int ++ [.int 0]))) b (.lst []) = S4 at s4 ⊢
  have h4 := h.sub s4
  refine ⟨_, _, h4.ins, rfl, rfl, y, rs, rfl, h4, ret ⟨_, _, rfl, ld _, _, _, rfl, ret ?_⟩⟩
  rw [decide_eq_true rfl]
  walk_at "A.go"
  refine ⟨_, _, _, rfl, h4.ins, rfl, y, rs, rfl, h4, ret ?_⟩
  walk_at "A.go"
  refine ⟨by omega, by omega, _, _, rfl, ld _, ?_⟩
  rw [decide_eq_true rfl]
  walk_at "A.go"
  refine ⟨_, _, h4.ins, rfl, rfl, y, rs, rfl, h4, ret ⟨rs, rfl, h.2.2, ret ⟨_, _, rfl, ret ?_⟩⟩⟩
  have hw : worthR rs (rng rs.length) = rk rs.reverse := by unfold worthR; rw [map_rowAt]
  rw [hw, decide_eq_true rfl]
  walk_at "A.go"
  refine ⟨_, _, h4.ins, rfl, rfl, y, rs, rfl, h4, .inl (ret ⟨2, _, _, by decide, rd_ints (n := 0) _, rd_ints (n := 0) _, ?_⟩)⟩
  rw [eqv_listInts, decide_eq_true rfl]
  walk_at "A.go"
  refine ⟨_, _, h4.ins, rfl, rfl, y, rs, rfl, h4, .inl (ret ⟨2, _, _, by decide, rd_nats 0 rs, rd_nats 0 rs, ?_⟩)⟩
  rw [eqv_listInts, decide_eq_true rfl]
  exact ret_drop q s4
end A

namespace A
open PySem PySem.Spec L2 PyProof.Rows
local macro_rules | `(tactic| walk_at "A.go") => `(tactic| simp only [aSeq, aNext, aSet, aVar, atV_s, onB_b, onI_i, onII_i, onL1_i, onL2_i, it_l, it_t, it_s, it_x, ix_l, ix_t, ix_s, add_i, add_x, eq_i, eq_x, eq_b, is_b, aC, aNil, aCons, aOp, aUn, aTup, aLst, aCB, aNot, aAnd, aOr, aTst, aIfE, aAndV, aOrV, aNotV, aChn, aDrop, aRet, aRetN, aIf, agName, agNil, agCons, agTup, aAsg, aPar, aAug, aFor, aRng1, aRng2, aIter, aLc, aYes,
  aCl, aMt, aMk, aFl, aFst, aNeg, aI2, aI20, aLe, aLt, aGt, aGe, aSub, aMod, aMul, aFdv, aPow, aXor, aShl, aShr, agSub, aoN, aoS, aSl, aRev, aLen, aList, aTupOf, aLRg1, aLRg2, aAbs, aI2N, aMax, aMin, aDm, aAll, aAny, aBM, aApp, aPopAt, aPop, aClear, aRevM, aExt, aRepr, aClD, aLnSt, aIAdd, aBreak, aCont,
  aEnd, startA, List.map_cons, List.map_nil, List.cons_append, List.nil_append, List.length_cons, List.length_nil, List.replicate, List.getElem?_cons_zero, List.getElem?_cons_succ, List.set_cons_zero, List.set_cons_succ, Nat.reduceAdd, Nat.reduceSub, Nat.succ_eq_add_one, Int.reduceAdd, Int.reduceMul,
  reduceIte, Bool.false_eq_true, Bool.not_true, Bool.not_false, ite_true, ite_false])
theorem spn_mem {r : Nat} : ∀ {l : List Nat}, r ∈ l → Spn l r
  | a :: l, h => by
    rcases List.mem_cons.mp h with rfl | h
    · exact .inr (by rw [Nat.xor_self]; exact spn_zero l)
    · exact .inl (spn_mem h)
theorem rowAt_turn {rs : List Nat} {k : Int} (h : InR rs.length k) : rowAt rs.reverse ((rs.length : Int) - 1 - k) = rowAt rs k := by
  have h0 := h.1
  have h1 := h.2
  have e : ((rs.length : Int) - 1 - k).toNat = rs.length - 1 - k.toNat := by omega
  unfold rowAt
  rw [e, List.getD_eq_getElem?_getD, List.getD_eq_getElem?_getD, List.getElem?_reverse (by omega)]
  congr 2
  omega
theorem rowAt_app {rs : List Nat} {x : Nat} {k : Int} (h : InR rs.length k) : rowAt (rs ++ [x]) k = rowAt rs k := by
  have h0 := h.1
  have h1 := h.2
  unfold rowAt
  rw [List.getD_eq_getElem?_getD, List.getD_eq_getElem?_getD, List.getElem?_append_left (by omega)]
theorem rowAt_new {rs : List Nat} {x : Nat} : rowAt (rs ++ [x]) (rs.length : Int) = x := by
  unfold rowAt
  rw [List.getD_eq_getElem?_getD]
  simp
theorem law_worth_right (K : PySem.W.Frag) : ∀ ds S Q E, sp_worth_right K ds S Q E → a_worth_right K (aEnd Q E) (startA ["_law_yard", "_law_other", "_law_rows_here", "_law_heap_here", "_law_handed", "_law_due", "_law_k", "_law_turned", "_law_more"] ds) S := by
  rintro ds S Q E ⟨y, z, rs, hp, rfl, h, h', hh, q⟩
  unfold a_worth_right
  walk_at "A.go"
  have hlen := nodup_le hh.1 hh.2
  have hes := h.2.1
  have hs : sizeLine = 16777216 := sizeLine_eq
  refine ⟨_, _, rfl, rfl, .inr fun a ha => ?_⟩
  have s1 : Sub S (put S a (.lst (hp.map .int))) := sub_del ha
  have ga : put S a (.lst (hp.map .int)) a = some (.lst (hp.map .int)) := put_same
  generalize put S a (.lst (hp.map .int)) = S1 at s1 ga ⊢
  have h1 := h.sub s1
  have h2 := h'.sub s1
  have ld : ∀ S : Sto, lenD S (.lst (rs.map nD)) = some rs.length := fun S => by show some _ = some _; rw [List.length_map]
  refine aLcL_map (fun d => match d with | .int i => nD (rowAt rs i) | d => d) trivial ?_ (.inl ?_)
  · intro d' hd' k hk
    obtain ⟨i, hi, rfl⟩ := List.mem_map.mp hd'
    simp only [wipeA, List.set_cons_succ, List.set_cons_zero]
    walk_at "A.go"
    exact ⟨_, atI_map (rowAt_get (hh.2 i hi)) (hh.2 i hi).1, hk⟩
  have em : (hp.map D.int).map (fun d => match d with | .int i => nD (rowAt rs i) | d => d) = (hp.map (rowAt rs)).map nD := by
    rw [List.map_map, List.map_map]
    rfl
  rw [em]
  refine ⟨hp.map (rowAt rs), rfl, fun r hr => ?_, ret ?_⟩
  · obtain ⟨i, hi, rfl⟩ := List.mem_map.mp hr
    exact rowAt_low h.2.2 (hh.2 i hi)
  refine aLcL_map (fun d => match d with | .int i => .int ((rs.length : Int) - 1 - i) | d => d) trivial ?_ (.inl ?_)
  · intro d' hd' k hk
    obtain ⟨i, hi, rfl⟩ := List.mem_map.mp hd'
    simp only [wipeA, List.set_cons_succ, List.set_cons_zero]
    walk_at "A.go"
    exact ⟨_, _, rfl, ld _, hk⟩
  have em2 : (hp.map D.int).map (fun d => match d with | .int i => .int ((rs.length : Int) - 1 - i) | d => d) = (hp.map fun i => (rs.length : Int) - 1 - i).map D.int := by
    rw [List.map_map, List.map_map]
    rfl
  rw [em2]
  walk_at "A.go"
  refine ⟨_, _, h1.ins, rfl, rfl, y, rs, .own a, hp, rfl, h1, asL_own ga, hh, ret ⟨_, _, rfl, ret ?_⟩⟩
  rw [show ((rk (hp.map (rowAt rs)).reverse : Nat) : Int) = (worthR rs hp : Nat) from rfl, decide_eq_true rfl]
  walk_at "A.go"
  have hturn : Heap_ rs.reverse.length (hp.map fun i => (rs.length : Int) - 1 - i) := by
    rw [List.length_reverse]
    refine ⟨List.Pairwise.map _ (fun a b (q : a ≠ b) z => q (by omega)) hh.1, fun i hi => ?_⟩
    obtain ⟨j, hj, rfl⟩ := List.mem_map.mp hi
    have := hh.2 j hj
    exact ⟨by have := this.2; omega, by have := this.1; omega⟩
  have wturn : worthR rs.reverse (hp.map fun i => (rs.length : Int) - 1 - i) = worthR rs hp := by
    unfold worthR
    rw [List.map_map]
    congr 2
    exact List.map_congr_left fun i hi => rowAt_turn (hh.2 i hi)
  refine ⟨_, _, h2.ins, rfl, rfl, z, rs.reverse, .lst _, _, rfl, h2, rfl, hturn, ret ⟨_, _, rfl, ret ?_⟩⟩
  rw [wturn, decide_eq_true rfl]
  walk_at "A.go"
  refine ⟨2, .list (hp.map .int), .list (hp.map .int), by decide, by rw [rd_own ga]; exact rd_ints hp, rd_ints hp, ?_⟩
  rw [eqv_listInts, decide_eq_true rfl]
  walk_at "A.go"
  have last : ∀ S2, Sub S S2 → S2 a = some (.lst (hp.map .int)) → ∃ C fs, insOf S2 (.own y) = some (C, fs) ∧ okT K C ∧ List.lookup (Str.ofString "worth") fs = none ∧
      sp_Yard_worth K [.own y, .own a] S2 (Ret fun d S1 => sp_is K [d, .int (worthR rs hp : Nat)] S1 (Ret (Ret Q)) (RetX E)) (RetX E) := fun S2 s2 g2 => by
    have h3 := h.sub s2
    refine ⟨_, _, h3.ins, rfl, rfl, y, rs, .own a, hp, rfl, h3, asL_own g2, hh, ret ⟨_, _, rfl, ret ?_⟩⟩
    rw [decide_eq_true rfl]
    exact ret_drop q s2
  refine ⟨_, hp.length, rfl, by show some _ = some _; rw [List.length_map], ?_⟩
  by_cases g1 : 1 < hp.length
  · rw [decide_eq_true (show (1 : Int) < (hp.length : Nat) by omega)]
    walk_at "A.go"
    refine ⟨_, rs.length, rfl, ld _, ?_⟩
    by_cases g2 : rs.length < 24
    · rw [decide_eq_true (show ((rs.length : Nat) : Int) < 24 by omega)]
      walk_at "A.go"
      have k0 : hp[0]? = some (hp[0]'(by omega)) := List.getElem?_eq_getElem (by omega)
      have kl : hp[hp.length - 1]? = some (hp[hp.length - 1]'(by omega)) := List.getElem?_eq_getElem (by omega)
      generalize hp[0]'(by omega) = i0 at k0
      generalize hp[hp.length - 1]'(by omega) = il at kl
      have m0 := List.mem_of_getElem? k0
      have ml := List.mem_of_getElem? kl
      have el : atI (hp.map D.int) (-1) = some (.int il) := by
        have e : ixN (hp.map D.int).length (-1) = some (hp.length - 1) := by
          unfold ixN
          rw [List.length_map, if_neg (by decide), if_pos (by omega)]
          congr 1
          omega
        unfold atI
        rw [e]
        show (hp.map D.int)[hp.length - 1]? = _
        rw [List.getElem?_map, kl]
        rfl
      refine ⟨_, atI_map (i := 0) k0 (by decide), ?_⟩
      walk_at "A.go"
      refine ⟨_, atI_map (rowAt_get (hh.2 i0 m0)) (hh.2 i0 m0).1, _, el, ?_⟩
      walk_at "A.go"
      refine ⟨_, atI_map (rowAt_get (hh.2 il ml)) (hh.2 il ml).1, ?_⟩
      unfold nD
      walk_at "A.go"
      have hx : Builtin.bitXor (rowAt rs i0 : Int) (rowAt rs il : Int) = ((rowAt rs i0 ^^^ rowAt rs il : Nat) : Int) := xor_nat _ _
      rw [hx]
      have l0 := rowAt_low h.2.2 (hh.2 i0 m0)
      have ll := rowAt_low h.2.2 (hh.2 il ml)
      have hsp : Spn (hp.map (rowAt rs)).reverse (rowAt rs i0 ^^^ rowAt rs il) := spn_xor (spn_mem (List.mem_reverse.mpr (List.mem_map.mpr ⟨i0, m0, rfl⟩))) (spn_mem (List.mem_reverse.mpr (List.mem_map.mpr ⟨il, ml, rfl⟩)))
      have lx := Nat.xor_lt_two_pow l0 ll
      generalize rowAt rs i0 ^^^ rowAt rs il = x at hsp lx ⊢
      refine ⟨by rw [hs]; decide, .inl ⟨_, _, rfl, rfl, by rw [List.length_map, hs]; show rs.length + 1 ≤ _; omega, .inl fun y' hy' => ⟨y', _, rs ++ [x], rfl, put_same, ?_, nofun, by rw [List.length_append]; exact g2, fun r hr => ?_, ret ⟨rfl, ret ?_⟩⟩⟩⟩
      · show some _ = some _
        rw [List.map_append]
        rfl
      · rcases List.mem_append.mp hr with hr | hr
        · exact h.2.2 r hr
        · rw [List.mem_singleton.mp hr]; exact lx
      · rw [put_put]
        have s3 : Sub S1 (put S1 y' (.ins (He.ga K "Rows") (rowsF (rs ++ [x])))) := sub_del hy'
        have h3 : IsR K (put S1 y' (.ins (He.ga K "Rows") (rowsF (rs ++ [x])))) y' (rs ++ [x]) := ⟨put_same, by rw [List.length_append]; exact g2, fun r hr => by
          rcases List.mem_append.mp hr with hr | hr
          · exact h.2.2 r hr
          · rw [List.mem_singleton.mp hr]; exact lx⟩
        have g3 := s3 _ _ ga
        generalize put S1 y' (.ins (He.ga K "Rows") (rowsF (rs ++ [x]))) = S3 at s3 h3 g3 ⊢
        have hmore : Heap_ (rs ++ [x]).length (hp ++ [(rs.length : Int)]) := by
          rw [List.length_append]
          refine ⟨?_, fun i hi => ?_⟩
          · rw [List.nodup_append]
            refine ⟨hh.1, by simp, fun u hu v hv => ?_⟩
            rw [List.mem_singleton.mp hv]
            rintro rfl
            have := (hh.2 _ hu).2
            omega
          · rcases List.mem_append.mp hi with hi | hi
            · have := hh.2 i hi
              exact ⟨this.1, by have := this.2; show i < ((rs.length + 1 : Nat) : Int); omega⟩
            · rw [List.mem_singleton.mp hi]
              exact ⟨by omega, by show (rs.length : Int) < ((rs.length + 1 : Nat) : Int); omega⟩
        have wmore : worthR (rs ++ [x]) (hp ++ [(rs.length : Int)]) = worthR rs hp := by
          unfold worthR
          rw [List.map_append, List.map_cons, List.map_nil, rowAt_new, List.reverse_append]
          have e : hp.map (rowAt (rs ++ [x])) = hp.map (rowAt rs) := List.map_congr_left fun i hi => rowAt_app (hh.2 i hi)
          rw [e]
          show rk (x :: (hp.map (rowAt rs)).reverse) = _
          simp only [rk, if_pos hsp, Nat.add_zero]
        refine ⟨_, _, h3.ins, rfl, rfl, _, _, rfl, ld _, ⟨by rw [hs]; decide, .inl ⟨_, _, rfl, rfl, by rw [List.length_map, hs]; show hp.length + 1 ≤ _; omega, .inl ⟨y', rs ++ [x], .lst _, hp ++ [(rs.length : Int)], rfl, h3, by show some _ = some _; rw [List.map_append]; rfl, hmore, ret ⟨_, _, rfl, ret ?_⟩⟩⟩⟩⟩
        rw [wmore, decide_eq_true rfl]
        walk_at "A.go"
        exact last S3 (s1.trans s3) g3
    · rw [decide_eq_false (show ¬ ((rs.length : Nat) : Int) < 24 by omega)]
      walk_at "A.go"
      exact last S1 s1 ga
  · rw [decide_eq_false (show ¬ (1 : Int) < (hp.length : Nat) by omega)]
    walk_at "A.go"
    exact last S1 s1 ga
end A

namespace A
open PySem PySem.Spec L2 PyProof.Rows
local macro_rules | `(tactic| walk_at "A.go") => `(tactic| simp only [aSeq, aNext, aSet, aVar, atV_s, onB_b, onI_i, onII_i, onL1_i, onL2_i, it_l, it_t, it_s, it_x, ix_l, ix_t, ix_s, add_i, add_x, eq_i, eq_x, eq_b, is_b, aC, aNil, aCons, aOp, aUn, aTup, aLst, aCB, aNot, aAnd, aOr, aTst, aIfE, aAndV, aOrV, aNotV, aChn, aDrop, aRet, aRetN, aIf, agName, agNil, agCons, agTup, aAsg, aPar, aAug, aFor, aRng1, aRng2, aIter, aLc, aYes,
  aCl, aMt, aMk, aFl, aFst, aNeg, aI2, aI20, aLe, aLt, aGt, aGe, aSub, aMod, aMul, aFdv, aPow, aXor, aShl, aShr, agSub, aoN, aoS, aSl, aRev, aLen, aList, aTupOf, aLRg1, aLRg2, aAbs, aI2N, aMax, aMin, aDm, aAll, aAny, aBM, aApp, aPopAt, aPop, aClear, aRevM, aExt, aRepr, aClD, aLnSt, aIAdd, aBreak, aCont,
  aEnd, startA, List.map_cons, List.map_nil, List.cons_append, List.nil_append, List.length_cons, List.length_nil, List.replicate, List.getElem?_cons_zero, List.getElem?_cons_succ, List.set_cons_zero, List.set_cons_succ, Nat.reduceAdd, Nat.reduceSub, Nat.succ_eq_add_one, Int.reduceAdd, Int.reduceMul,
  reduceIte, Bool.false_eq_true, Bool.not_true, Bool.not_false, ite_true, ite_false])
def hD (hp : List Int) : D := .lst (hp.map .int)
theorem law_law (K : PySem.W.Frag) : ∀ ds S Q E, sp_law K ds S Q E → a_law K (aEnd Q E) (startA ["_law_script", "_law_k", "_law_pot_here", "_law_rows_here", "_law_handed", "_law_yard", "_law_other", "_law_heaps", "_law_turn", "_law_heap_here"] ds) S := by
  rintro ds S Q E ⟨ns, rfl, hlen, hb, kt, kl, q⟩
  unfold a_law
  walk_at "A.go"
  have hs : sizeLine = 16777216 := sizeLine_eq
  refine ⟨.scr ns, ns.length, rfl, rfl, trivial, trivial, ?_, ?_, ?_⟩
  · split <;> split <;> omega
  · split <;> split <;> omega
  have hk4 : (if (if (ns.length : Int) < 4 then (ns.length : Int) else 4) > 1 then (if (ns.length : Int) < 4 then (ns.length : Int) else 4) else 1).toNat ≤ 4 := by
    split <;> split <;> omega
  generalize (if (if (ns.length : Int) < 4 then (ns.length : Int) else 4) > 1 then (if (ns.length : Int) < 4 then (ns.length : Int) else 4) else 1).toNat = kk at hk4 ⊢
  refine aLoop_inv (fun k ρ S' => ∃ b1 b2 b3 b4 b5 b6 b7 b9, ρ = [some (.scr ns), b1, b2, b3, b4, b5, b6, b7, none, b9] ∧ Sub S S') ?_ ?_ ⟨none, none, none, none, none, none, none, none, rfl, Sub.refl S⟩
  · rintro k z ρ S' nx hk ⟨b1, b2, b3, b4, b5, b6, b7, b9, rfl, sub1⟩ hn
    have hk' := (List.getElem?_eq_some_iff.mp hk).1
    rw [rngD_length] at hk'
    have ez : z = .int k := by
      rw [rngD0, List.getElem?_map, rng_get (by omega)] at hk
      exact (Option.some.inj hk).symm
    subst ez
    refine ⟨trivial, ?_⟩
    walk_at "A.go"
    refine ⟨ns, k, rfl, by omega, by omega, hb, fun p hp => ret ?_⟩
    have sub2 := sub1.trans (sub_del (c := .pot) hp)
    have gp : put S' p .pot p = some .pot := put_same
    generalize put S' p .pot = S2 at sub2 gp ⊢
    refine ⟨p, rfl, gp, fun rs hlr hlow => ret ⟨_, _, rfl, rfl, .inr fun a ha => ?_⟩⟩
    intro y hy
    have ay : D.own a ≠ .own y := by rintro z; cases z; rw [put_same] at hy; cases hy
    have ay2 : a ≠ y := fun z => ay (by rw [z])
    refine ⟨y, .own a, rs, rfl, put_same, asL_own (by rw [put_ne ay2, put_same]), ay, hlr, hlow, ret ⟨rfl, ret ?_⟩⟩
    rw [put_put]
    rw [put_ne (Ne.symm ay2)] at hy
    have sA : Sub S2 (put (put S2 a (.lst (rs.map nD))) y (.ins (He.ga K "Rows") (rowsF rs))) := (sub_del ha).put hy
    have ga : put (put S2 a (.lst (rs.map nD))) y (.ins (He.ga K "Rows") (rowsF rs)) a = some (.lst (rs.map nD)) := by rw [put_ne ay2, put_same]
    have gy : IsR K (put (put S2 a (.lst (rs.map nD))) y (.ins (He.ga K "Rows") (rowsF rs))) y rs := ⟨put_same, hlr, hlow⟩
    generalize put (put S2 a (.lst (rs.map nD))) y (.ins (He.ga K "Rows") (rowsF rs)) = S3 at sA ga gy ⊢
    refine ⟨_, rfl, .inl ?_⟩
    intro w hw
    have hlow2 : Low rs.reverse := fun r hr => hlow r (List.mem_reverse.mp hr)
    have hlr2 : rs.reverse.length ≤ 24 := by rw [List.length_reverse]; exact hlr
    refine ⟨w, _, rs.reverse, rfl, put_same, by rw [← List.map_reverse]; rfl, nofun, hlr2, hlow2, ret ⟨rfl, ret ?_⟩⟩
    rw [put_put]
    have sB : Sub S3 (put S3 w (.ins (He.ga K "Rows") (rowsF rs.reverse))) := sub_del hw
    have gw : IsR K (put S3 w (.ins (He.ga K "Rows") (rowsF rs.reverse))) w rs.reverse := ⟨put_same, hlr2, hlow2⟩
    have ga4 := sB _ _ ga
    have gy4 := gy.sub sB
    generalize put S3 w (.ins (He.ga K "Rows") (rowsF rs.reverse)) = S4 at sB gw ga4 gy4 ⊢
    refine ⟨2, _, _, by decide, by rw [rd_own ga4]; exact rd_nats 0 rs, rd_nats 0 rs, ?_⟩
    rw [eqv_listInts, decide_eq_true rfl]
    walk_at "A.go"
    refine ⟨_, _, .ref (He.ga K "Rows"), .ref (He.ga K "Yard"), true, rfl, rfl, by unfold tyD; simp only [gy4.1], fun C e => by cases e; rfl, kt, ?_⟩
    walk_at "A.go"
    refine ⟨_, _, .type "list", .ref (He.ga K "Yard"), false, rfl, rfl, by unfold tyD; simp only [ga4], (fun C e => nomatch e), kl, ?_⟩
    walk_at "A.go"
    refine ⟨⟨_, asL_own ga4⟩, a, _, rfl, ga4, trivial, ?_⟩
    have na : ∀ (c : Addr) (x : Cell), S2 c = some x → c ≠ a := fun c x e z => by subst z; rw [ha] at e; cases e
    have s24 : ∀ c x, S2 c = some x → put S4 a (.lst []) c = some x := fun c x e => by rw [put_ne (na c x e)]; exact sB _ _ (sA _ _ e)
    have sC : Sub S (put S4 a (.lst [])) := fun c x e => s24 c x (sub2 _ _ e)
    have gp5 : put S4 a (.lst []) p = some .pot := s24 _ _ gp
    have gy5 : IsR K (put S4 a (.lst [])) y rs := ⟨by rw [put_ne (Ne.symm ay2)]; exact gy4.1, gy4.2⟩
    have aw : w ≠ a := by rintro rfl; rw [ga] at hw; cases hw
    have gw5 : IsR K (put S4 a (.lst [])) w rs.reverse := ⟨by rw [put_ne aw]; exact gw.1, gw.2⟩
    generalize put S4 a (.lst []) = S5 at sC gp5 gy5 gw5 ⊢
    have two : 2 ≤ sizeLine := by rw [hs]; decide
    have ld : ∀ S : Sto, lenD S (.lst (rs.map nD)) = some rs.length := fun S => by show some _ = some _; rw [List.length_map]
    have e0 : rngD 0 ((rs.length : Int)).toNat = (rng rs.length).map .int := by rw [rngD0]; rfl
    refine ⟨Nat.zero_le _, .inl ⟨_, rs.length, rfl, ld _, RgOk.of_le (by omega) (by omega) (by omega) (by omega), .inl ⟨two, .inl ⟨p, 7, rfl, gp5, by decide, by decide, fun d d0 d1 => ret ?_⟩⟩⟩⟩
    walk_at "A.go"
    refine ⟨by omega, by omega, ?_⟩
    rw [e0]
    simp only [wipeA]
    refine aLcL_inv (fun i acc S' => S' = S5 ∧ ∃ hps : List (List Int), acc = hps.map hD ∧ (∀ hp ∈ hps, Heap_ rs.length hp) ∧ hps.length = i) ?_ ?_ ⟨rfl, [], rfl, (fun hp h => (List.not_mem_nil h).elim), rfl⟩
    · rintro i dd acc S6 k2 hi ⟨rfl, hps, rfl, hh, hl⟩ hk2
      refine ⟨trivial, ?_⟩
      walk_at "A.go"
      refine ⟨_, rs.length, rfl, ld _, p, rs.length, rfl, gp5, hlr, fun hp hhp => ret (hk2 _ _ ⟨rfl, hps ++ [hp], by rw [List.map_append]; rfl, fun x hx => ?_, by rw [List.length_append, hl]; rfl⟩)⟩
      rcases List.mem_append.mp hx with hx | hx
      · exact hh x hx
      · rw [List.mem_singleton.mp hx]; exact hhp
    · rintro acc S6 ⟨rfl, hps, rfl, hh, hl⟩
      rw [rngD_length] at hl
      refine ⟨trivial, .inl ?_⟩
      refine ⟨_, _, rfl, rfl, ?_, .inl ?_⟩
      · rw [List.length_map, hs]
        show 2 + hps.length ≤ _
        omega
      have el : [D.lst [], D.lst ((rng rs.length).map .int)] ++ hps.map hD = ([] :: rng rs.length :: hps).map hD := rfl
      rw [el]
      have hall : ∀ hp ∈ ([] : List Int) :: rng rs.length :: hps, Heap_ rs.length hp := fun hp h => by
        rcases List.mem_cons.mp h with rfl | h
        · exact ⟨List.nodup_nil, fun i hi => (List.not_mem_nil hi).elim⟩
        · rcases List.mem_cons.mp h with rfl | h
          · exact ⟨rng_nodup, fun i hi => mem_rngI.mp hi⟩
          · exact hh hp h
      generalize ([] : List Int) :: rng rs.length :: hps = hH at hall ⊢
      walk_at "A.go"
      refine aLoop_inv (fun i ρ S7 => S7 = S6 ∧ ∃ b b', ρ = [some (.scr ns), some (.int k), some (.own p), some (.lst (rs.map nD)), some (.own a), some (.own y), some (.own w), b, none, b']) ?_ ?_ ⟨rfl, _, _, rfl⟩
      · rintro i dd ρ S7 nx2 hi ⟨rfl, b, b', rfl⟩ hn2
        rw [List.getElem?_map] at hi
        obtain ⟨hp, hhp, rfl⟩ := Option.map_eq_some_iff.mp hi
        refine ⟨trivial, ?_⟩
        unfold hD
        walk_at "A.go"
        refine ⟨y, w, rs, hp, rfl, gy5, gw5, hall hp (List.mem_of_getElem? hhp), ret ?_⟩
        walk_at "A.go"
        exact hn2 _ _ ⟨rfl, _, _, rfl⟩
      · rintro ρ S7 ⟨rfl, b, b', rfl⟩
        refine ⟨trivial, ?_⟩
        walk_at "A.go"
        refine ⟨y, rs, rfl, gy5, ret ?_⟩
        walk_at "A.go"
        refine ⟨_, rfl, .inl ⟨w, rs.reverse, by rw [← List.map_reverse], gw5, ret ?_⟩⟩
        walk_at "A.go"
        exact hn _ _ ⟨_, _, _, _, _, _, _, _, rfl, sC⟩
  · rintro ρ S' ⟨b1, b2, b3, b4, b5, b6, b7, b9, rfl, sub1⟩
    refine ⟨trivial, ?_⟩
    walk_at "A.go"
    exact ret_drop q sub1
end A

namespace A
open PySem PySem.Spec L2 PyProof.Rows
local macro_rules | `(tactic| walk_at "A.go") => `(tactic| simp only [aSeq, aNext, aSet, aVar, atV_s, onB_b, onI_i, onII_i, onL1_i, onL2_i, it_l, it_t, it_s, it_x, ix_l, ix_t, ix_s, add_i, add_x, eq_i, eq_x, eq_b, is_b, aC, aNil, aCons, aOp, aUn, aTup, aLst, aCB, aNot, aAnd, aOr, aTst, aIfE, aAndV, aOrV, aNotV, aChn, aDrop, aRet, aRetN, aIf, agName, agNil, agCons, agTup, aAsg, aPar, aAug, aFor, aRng1, aRng2, aIter, aLc, aYes,
  aCl, aMt, aMk, aFl, aFst, aNeg, aI2, aI20, aLe, aLt, aGt, aGe, aSub, aMod, aMul, aFdv, aPow, aXor, aShl, aShr, agSub, aoN, aoS, aSl, aRev, aLen, aList, aTupOf, aLRg1, aLRg2, aAbs, aI2N, aMax, aMin, aDm, aAll, aAny, aBM, aApp, aPopAt, aPop, aClear, aRevM, aExt, aRepr, aClD, aLnSt, aIAdd, aBreak, aCont,
  aEnd, startA, List.map_cons, List.map_nil, List.cons_append, List.nil_append, List.length_cons, List.length_nil, List.replicate, List.getElem?_cons_zero, List.getElem?_cons_succ, List.set_cons_zero, List.set_cons_succ, Nat.reduceAdd, Nat.reduceSub, Nat.succ_eq_add_one, Int.reduceAdd, Int.reduceMul,
  reduceIte, Bool.false_eq_true, Bool.not_true, Bool.not_false, ite_true, ite_false])
def top (i : Nat) : Stmt := PySem.Challenge.pw_noaslong_k13_rows_by_sums.main.body.getD i (.Pass ⟨0, 0, 0, 0⟩)
def d0 : He.DefD := ⟨("NoYard", some "__init__"), "__init__", "NoYard.__init__", defArgs (inClass (top 2) 0), defBody (inClass (top 2) 0), defScope (inClass (top 2) 0), [], []⟩
def d1 : He.DefD := ⟨("is_number", none), "is_number", "is_number", defArgs (top 6), defBody (top 6), defScope (top 6), [], []⟩
def d2 : He.DefD := ⟨("is_heap", none), "is_heap", "is_heap", defArgs (top 7), defBody (top 7), defScope (top 7), [], []⟩
def d3 : He.DefD := ⟨("Yard", some "__init__"), "__init__", "Yard.__init__", defArgs (inClass (top 9) 0), defBody (inClass (top 9) 0), defScope (inClass (top 9) 0), [], [("nested", .int 0)]⟩
def d4 : He.DefD := ⟨("Yard", some "many"), "many", "Yard.many", defArgs (inClass (top 9) 1), defBody (inClass (top 9) 1), defScope (inClass (top 9) 1), [], []⟩
def d5 : He.DefD := ⟨("Yard", some "things"), "things", "Yard.things", defArgs (inClass (top 9) 2), defBody (inClass (top 9) 2), defScope (inClass (top 9) 2), [], []⟩
def d6 : He.DefD := ⟨("Yard", some "worth"), "worth", "Yard.worth", defArgs (inClass (top 9) 3), defBody (inClass (top 9) 3), defScope (inClass (top 9) 3), [], []⟩
def d7 : He.DefD := ⟨("Yard", some "worth_of"), "worth_of", "Yard.worth_of", defArgs (inClass (top 9) 4), defBody (inClass (top 9) 4), defScope (inClass (top 9) 4), [], []⟩
def d8 : He.DefD := ⟨("Yard", some "whole"), "whole", "Yard.whole", defArgs (inClass (top 9) 5), defBody (inClass (top 9) 5), defScope (inClass (top 9) 5), [], []⟩
def d9 : He.DefD := ⟨("Yard", some "sort_word"), "sort_word", "Yard.sort_word", defArgs (inClass (top 9) 6), defBody (inClass (top 9) 6), defScope (inClass (top 9) 6), [], []⟩
def d10 : He.DefD := ⟨("Yard", some "made_of"), "made_of", "Yard.made_of", defArgs (inClass (top 9) 7), defBody (inClass (top 9) 7), defScope (inClass (top 9) 7), [], []⟩
def d11 : He.DefD := ⟨("Yard", some "__eq__"), "__eq__", "Yard.__eq__", defArgs (inClass (top 9) 8), defBody (inClass (top 9) 8), defScope (inClass (top 9) 8), [], []⟩
def d12 : He.DefD := ⟨("Yard", some "__len__"), "__len__", "Yard.__len__", defArgs (inClass (top 9) 9), defBody (inClass (top 9) 9), defScope (inClass (top 9) 9), [], []⟩
def d13 : He.DefD := ⟨("want_heap", none), "want_heap", "want_heap", defArgs (top 10), defBody (top 10), defScope (top 10), [], []⟩
def d14 : He.DefD := ⟨("want_list", none), "want_list", "want_list", defArgs (top 11), defBody (top 11), defScope (top 11), [], []⟩
def d15 : He.DefD := ⟨("want_each", none), "want_each", "want_each", defArgs (top 12), defBody (top 12), defScope (top 12), [], []⟩
def d16 : He.DefD := ⟨("Rows", some "__init__"), "__init__", "Rows.__init__", defArgs (inClass (top 15) 0), defBody (inClass (top 15) 0), defScope (inClass (top 15) 0), [], []⟩
def d17 : He.DefD := ⟨("Rows", some "rows"), "rows", "Rows.rows", defArgs (inClass (top 15) 1), defBody (inClass (top 15) 1), defScope (inClass (top 15) 1), [], []⟩
def d18 : He.DefD := ⟨("Rows", some "worth_of"), "worth_of", "Rows.worth_of", defArgs (inClass (top 15) 2), defBody (inClass (top 15) 2), defScope (inClass (top 15) 2), [], []⟩
def d19 : He.DefD := ⟨("Rows", some "sort_word"), "sort_word", "Rows.sort_word", defArgs (inClass (top 15) 3), defBody (inClass (top 15) 3), defScope (inClass (top 15) 3), [], []⟩
def d20 : He.DefD := ⟨("Rows", some "made_of"), "made_of", "Rows.made_of", defArgs (inClass (top 15) 4), defBody (inClass (top 15) 4), defScope (inClass (top 15) 4), [], []⟩
def d21 : He.DefD := ⟨("Rows", some "__repr__"), "__repr__", "Rows.__repr__", defArgs (inClass (top 15) 5), defBody (inClass (top 15) 5), defScope (inClass (top 15) 5), [], []⟩
def d22 : He.DefD := ⟨("_law_pot", none), "_law_pot", "_law_pot", defArgs (top 17), defBody (top 17), defScope (top 17), [], []⟩
def d23 : He.DefD := ⟨("_law_take", none), "_law_take", "_law_take", defArgs (top 18), defBody (top 18), defScope (top 18), [], []⟩
def d24 : He.DefD := ⟨("_law_among", none), "_law_among", "_law_among", defArgs (top 19), defBody (top 19), defScope (top 19), [], []⟩
def d25 : He.DefD := ⟨("_law_shuffled", none), "_law_shuffled", "_law_shuffled", defArgs (top 20), defBody (top 20), defScope (top 20), [], []⟩
def d26 : He.DefD := ⟨("_law_rows", none), "_law_rows", "_law_rows", defArgs (top 21), defBody (top 21), defScope (top 21), [], []⟩
def d27 : He.DefD := ⟨("_law_free", none), "_law_free", "_law_free", defArgs (top 22), defBody (top 22), defScope (top 22), [], []⟩
def d28 : He.DefD := ⟨("_law_heap", none), "_law_heap", "_law_heap", defArgs (top 23), defBody (top 23), defScope (top 23), [], []⟩
def d29 : He.DefD := ⟨("_law_is", none), "_law_is", "_law_is", defArgs (top 24), defBody (top 24), defScope (top 24), [], []⟩
def d30 : He.DefD := ⟨("_law_worth_right", none), "_law_worth_right", "_law_worth_right", defArgs (top 25), defBody (top 25), defScope (top 25), [], []⟩
def d31 : He.DefD := ⟨("_law_told", none), "_law_told", "_law_told", defArgs (top 26), defBody (top 26), defScope (top 26), [], []⟩
def d32 : He.DefD := ⟨("law", none), "law", "law", defArgs (top 27), defBody (top 27), defScope (top 27), [], []⟩
def fn : List He.DefD := [d0, d1, d2, d3, d4, d5, d6, d7, d8, d9, d10, d11, d12, d13, d14, d15, d16, d17, d18, d19, d20, d21, d22, d23, d24, d25, d26, d27, d28, d29, d30, d31, d32]
def fc : List Chk := [
  kFree "int",
  kIsi "Rows",
  kFree "isinstance",
  kFree "bool",
  kFree "list",
  kFree "all",
  kFree "len",
  kFree "set",
  kFree "range",
  kCls "Rows",
  kNo "Rows" "numbers",
  kNo "Rows" "nested",
  kInt "MOST_THINGS" 24,
  kInt "MOST_SUMS" 4096,
  kNo "Rows" "own_rows",
  kFree "abs",
  kFree "max",
  kFree "divmod",
  kFree "repr",
  kFree "min",
  kGlo "Yard",
  kKit "Rows" "Yard" true,
  kKitT "list" "Yard" false,
  kGlo "is_number",
  kGlo "is_heap",
  kClm "Yard" "__init__" ("Yard", some "__init__"),
  kMeth "Rows" "many" ("Yard", some "many"),
  kMeth "Rows" "things" ("Yard", some "things"),
  kMeth "Rows" "worth_of" ("Rows", some "worth_of"),
  kGlo "want_heap",
  kMeth "Rows" "worth" ("Yard", some "worth"),
  kMeth "Rows" "whole" ("Yard", some "whole"),
  kMeth "Rows" "__len__" ("Yard", some "__len__"),
  kGlo "want_list",
  kGlo "want_each",
  kMk "Rows" ("Rows", some "__init__"),
  kGlo "Rows",
  kMeth "Rows" "rows" ("Rows", some "rows"),
  kGlo "_law_pot",
  kGlo "_law_take",
  kGlo "_law_among",
  kGlo "_law_shuffled",
  kGlo "_law_rows",
  kGlo "_law_free",
  kGlo "_law_heap",
  kGlo "_law_is",
  kGlo "_law_worth_right",
  kGlo "_law_told",
  kGlo "law"]
def nm0 : List PySem.Str := ["YardError", "NoYard", "NoHeap", "MOST_THINGS", "is_number", "is_heap", "Yard", "want_heap", "want_list", "want_each", "MOST_SUMS", "Rows", "_law_pot", "_law_take", "_law_among", "_law_shuffled", "_law_rows", "_law_free", "_law_heap", "_law_is"]
def nm1 : List PySem.Str := ["_law_worth_right", "_law_told"]
def names : List PySem.Str := nm0 ++ nm1
theorem sc_is_number : FnScope ["thing", "many"] ["thing", "many"] (defScope (top 6)) := ⟨rfl, rfl, rfl, by decide +kernel, rfl, by decide +kernel, by decide +kernel⟩
theorem sc_is_heap : FnScope ["things", "many", "thing"] ["things", "many"] (defScope (top 7)) := ⟨rfl, rfl, rfl, by decide +kernel, rfl, by decide +kernel, by decide +kernel⟩
theorem sc_Yard_init : FnScope ["self", "many", "nested"] ["self", "many", "nested"] (defScope (inClass (top 9) 0)) := ⟨rfl, rfl, rfl, by decide +kernel, rfl, by decide +kernel, by decide +kernel⟩
theorem sc_Yard_many : FnScope ["self"] ["self"] (defScope (inClass (top 9) 1)) := ⟨rfl, rfl, rfl, by decide +kernel, rfl, by decide +kernel, by decide +kernel⟩
theorem sc_Yard_things : FnScope ["self"] ["self"] (defScope (inClass (top 9) 2)) := ⟨rfl, rfl, rfl, by decide +kernel, rfl, by decide +kernel, by decide +kernel⟩
theorem sc_Rows_worth_of : FnScope ["self", "heap", "free", "thing", "row"] ["self", "heap"] (defScope (inClass (top 15) 2)) := ⟨rfl, rfl, rfl, by decide +kernel, rfl, by decide +kernel, by decide +kernel⟩
theorem sc_want_heap : FnScope ["yard", "heap"] ["yard", "heap"] (defScope (top 10)) := ⟨rfl, rfl, rfl, by decide +kernel, rfl, by decide +kernel, by decide +kernel⟩
theorem sc_Yard_worth : FnScope ["self", "heap"] ["self", "heap"] (defScope (inClass (top 9) 3)) := ⟨rfl, rfl, rfl, by decide +kernel, rfl, by decide +kernel, by decide +kernel⟩
theorem sc_Yard_whole : FnScope ["self"] ["self"] (defScope (inClass (top 9) 5)) := ⟨rfl, rfl, rfl, by decide +kernel, rfl, by decide +kernel, by decide +kernel⟩
theorem sc_Yard_len : FnScope ["self"] ["self"] (defScope (inClass (top 9) 9)) := ⟨rfl, rfl, rfl, by decide +kernel, rfl, by decide +kernel, by decide +kernel⟩
theorem sc_want_list : FnScope ["things"] ["things"] (defScope (top 11)) := ⟨rfl, rfl, rfl, by decide +kernel, rfl, by decide +kernel, by decide +kernel⟩
theorem sc_want_each : FnScope ["rights"] ["rights"] (defScope (top 12)) := ⟨rfl, rfl, rfl, by decide +kernel, rfl, by decide +kernel, by decide +kernel⟩
theorem sc_Rows_init : FnScope ["self", "rows", "row"] ["self", "rows"] (defScope (inClass (top 15) 0)) := ⟨rfl, rfl, rfl, by decide +kernel, rfl, by decide +kernel, by decide +kernel⟩
theorem sc_Rows_rows : FnScope ["self"] ["self"] (defScope (inClass (top 15) 1)) := ⟨rfl, rfl, rfl, by decide +kernel, rfl, by decide +kernel, by decide +kernel⟩
theorem sc_pot : FnScope ["_law_script", "_law_k", "_law_cell"] ["_law_script", "_law_k"] (defScope (top 17)) := ⟨rfl, rfl, rfl, by decide +kernel, rfl, by decide +kernel, by decide +kernel⟩
theorem sc_take : FnScope ["_law_pot_here", "_law_many", "_law_digit"] ["_law_pot_here", "_law_many"] (defScope (top 18)) := ⟨rfl, rfl, rfl, by decide +kernel, rfl, by decide +kernel, by decide +kernel⟩
theorem sc_among : FnScope ["_law_pot_here", "_law_some"] ["_law_pot_here", "_law_some"] (defScope (top 19)) := ⟨rfl, rfl, rfl, by decide +kernel, rfl, by decide +kernel, by decide +kernel⟩
theorem sc_shuffled : FnScope ["_law_pot_here", "_law_some", "_law_left", "_law_found", "_law_k"] ["_law_pot_here", "_law_some"] (defScope (top 20)) := ⟨rfl, rfl, rfl, by decide +kernel, rfl, by decide +kernel, by decide +kernel⟩
theorem sc_rows : FnScope ["_law_pot_here", "_law_wide", "_law_many", "_law_rows_here", "_law_k", "_law_row", "_law_way"] ["_law_pot_here"] (defScope (top 21)) := ⟨rfl, rfl, rfl, by decide +kernel, rfl, by decide +kernel, by decide +kernel⟩
theorem sc_free : FnScope ["_law_rows_here", "_law_sums", "_law_many", "_law_row", "_law_one"] ["_law_rows_here"] (defScope (top 22)) := ⟨rfl, rfl, rfl, by decide +kernel, rfl, by decide +kernel, by decide +kernel⟩
theorem sc_heap : FnScope ["_law_pot_here", "_law_many"] ["_law_pot_here", "_law_many"] (defScope (top 23)) := ⟨rfl, rfl, rfl, by decide +kernel, rfl, by decide +kernel, by decide +kernel⟩
theorem sc_is : FnScope ["_law_found", "_law_due"] ["_law_found", "_law_due"] (defScope (top 24)) := ⟨rfl, rfl, rfl, by decide +kernel, rfl, by decide +kernel, by decide +kernel⟩
theorem sc_worth_right : FnScope ["_law_yard", "_law_other", "_law_rows_here", "_law_heap_here", "_law_handed", "_law_due", "_law_k", "_law_turned", "_law_more"] ["_law_yard", "_law_other", "_law_rows_here", "_law_heap_here"] (defScope (top 25)) := ⟨rfl, rfl, rfl, by decide +kernel, rfl, by decide +kernel, by decide +kernel⟩
theorem sc_told : FnScope ["_law_yard", "_law_rows_here", "_law_every", "_law_told_here"] ["_law_yard", "_law_rows_here"] (defScope (top 26)) := ⟨rfl, rfl, rfl, by decide +kernel, rfl, by decide +kernel, by decide +kernel⟩
theorem sc_law : FnScope ["_law_script", "_law_k", "_law_pot_here", "_law_rows_here", "_law_handed", "_law_yard", "_law_other", "_law_heaps", "_law_turn", "_law_heap_here"] ["_law_script"] (defScope (top 27)) := ⟨rfl, rfl, rfl, by decide +kernel, rfl, by decide +kernel, by decide +kernel⟩
section
variable {P : Program} {w : World} {K : PySem.W.Frag} {mg : Str → Option Value} {base h : Heap} (hX : K.In h) (hG : h.Ns mainGlobals mg) (c : SaysX fc fn K)
include hX hG c
theorem fn_is_number {fd : FuncData} (F : FunD K (d1).name (d1).qual (d1).params (d1).body (d1).scope ((d1).dvs K) ((d1).kws K) (He.fAd K (d1).at_) fd) : FnA P w K mg base 1 (He.fAd K (d1).at_) fd ["thing", "many"] (sp_is_number K) :=
  fnA_of (a := a_is_number K) F sc_is_number (len_is_number K) (fun cdv A outer s H E hr => ⟨_, (ss_one (s_ret (ea_and (ea_callB (c_isi (ok := okT K) (fun C hC => (by have e : C = He.ga K "Rows" := hC; subst e; exact isi_ok (c.ck 1 rfl)))) (He.free_ok hX hG (c.ck 2 rfl)) (ar_cons (ea_v 0) (ar_cons (ea_bty (He.free_ok hX hG (c.ck 0 rfl))) ar_nil))) (ea_and (ea_not (ea_callB (c_isi (ok := okT K) (fun C hC => (by have e : C = He.ga K "Rows" := hC; subst e; exact isi_ok (c.ck 1 rfl)))) (He.free_ok hX hG (c.ck 2 rfl)) (ar_cons (ea_v 0) (ar_cons (ea_bty (He.free_ok hX hG (c.ck 3 rfl))) ar_nil)))) (ea_one (ea_chain o_le o_lt ea_int (ea_v 0) (ea_v 1)))))))⟩) (law_is_number K)
theorem g_is_number : GF P w K mg base "is_number" 1 ["thing", "many"] (sp_is_number K) := by
  obtain ⟨fd, F⟩ := c.df 1 (d := d1) rfl
  exact ⟨_, fd, He.glo_ok hX hG (c.ck 23 rfl), F.kp, (F.bindsN fun _ _ _ _ _ _ us hl => match us, hl with | [_, _], _ => rfl), fn_is_number hX hG c F⟩
theorem fn_is_heap {fd : FuncData} (F : FunD K (d2).name (d2).qual (d2).params (d2).body (d2).scope ((d2).dvs K) ((d2).kws K) (He.fAd K (d2).at_) fd) : FnA P w K mg base 2 (He.fAd K (d2).at_) fd ["things", "many"] (sp_is_heap K) :=
  fnA_of (a := a_is_heap K) F sc_is_heap (len_is_heap K) (fun cdv A outer s H E hr => ⟨_, (ss_cons (s_if (WstA.t (wa_or (ta_not (ta_val (ea_callB (c_isi (ok := okT K) (fun C hC => (by have e : C = He.ga K "Rows" := hC; subst e; exact isi_ok (c.ck 1 rfl)))) (He.free_ok hX hG (c.ck 2 rfl)) (ar_cons (ea_v 0) (ar_cons (ea_bty (He.free_ok hX hG (c.ck 4 rfl))) ar_nil))))) (wa_or1 (ta_not (ta_val (ea_callB (c_all rfl) (He.free_ok hX hG (c.ck 5 rfl)) (ar_cons (ea_lc rfl sc_is_heap.nd (i_seq (ea_v 0)) (own := [("thing", 2)]) (blkOk_by (N := ["things", "many", "thing"]) (sc := defScope (top 7)) (by decide +kernel)) (wgt_name (by decide)) (fun s H C cl fp => (g_name (i := 2) sc_is_heap.nd)) (fun s H C cl fp => ⟨_, ts_nil⟩) (fun s H C cl fp => ⟨_, (ea_call (g_is_number hX hG c) (hr.mono (by decide)) tk0 (ar_cons (ea_v 2) (ar_cons (ea_v 1) ar_nil)))⟩) (s, H, 0, [], [])) ar_nil))))))) (ss_one (s_ret ea_bl)) ss_nil)
 (ss_one (s_ret (ea_cmp (o_eq ⟨_, hr⟩) (ea_lnSt rfl (He.free_ok hX hG (c.ck 6 rfl)) (He.free_ok hX hG (c.ck 7 rfl)) (ea_v 0)) (ea_callB c_len (He.free_ok hX hG (c.ck 6 rfl)) (ar_cons (ea_v 0) ar_nil))))))⟩) (law_is_heap K)
theorem g_is_heap : GF P w K mg base "is_heap" 2 ["things", "many"] (sp_is_heap K) := by
  obtain ⟨fd, F⟩ := c.df 2 (d := d2) rfl
  exact ⟨_, fd, He.glo_ok hX hG (c.ck 24 rfl), F.kp, (F.bindsN fun _ _ _ _ _ _ us hl => match us, hl with | [_, _], _ => rfl), fn_is_heap hX hG c F⟩
theorem fn_Yard_init {fd : FuncData} (F : FunD K (d3).name (d3).qual (d3).params (d3).body (d3).scope ((d3).dvs K) ((d3).kws K) (He.fAd K (d3).at_) fd) : FnA P w K mg base 1 (He.fAd K (d3).at_) fd ["self", "many", "nested"] (sp_Yard_init K) :=
  fnA_of (a := a_Yard_init K) F sc_Yard_init (len_Yard_init K) (fun cdv A outer s H E hr => ⟨_, (ss_cons (s_fld (ok := okT K) (ea_listRg1 rfl (He.free_ok hX hG (c.ck 4 rfl)) (He.free_ok hX hG (c.ck 8 rfl)) (ea_v 1)) (ea_v 0) (fun C hC => (by have e : C = He.ga K "Rows" := hC; subst e; exact fd_ok (c.ck 9 rfl) (c.ck 10 rfl))))
 (ss_one (s_fld (ok := okT K) (ea_v 2) (ea_v 0) (fun C hC => (by have e : C = He.ga K "Rows" := hC; subst e; exact fd_ok (c.ck 9 rfl) (c.ck 11 rfl))))))⟩) (law_Yard_init K)
theorem cm_Yard_init : CMF P w K mg base "Yard" "__init__" 1 ["self", "many", "nested"] [.int 0] (sp_Yard_init K) := by
  obtain ⟨fd, F⟩ := c.df 3 (d := d3) rfl
  obtain ⟨us, hv, hb⟩ := FunD.binds0 (ps := ["self", "many", "nested"]) F 2 (List.cons_ne_nil _ _) rfl fun D doc pm an cdv ct us ks h1 h2 => match us, ks, h1, h2 with | [_, _], [_], _, _ => ⟨_, _, _, _, _, _, rfl, rfl, rfl⟩
  obtain ⟨h1, h2⟩ := clm_ok (c.ck 25 rfl)
  exact ⟨_, _, _, fd, [V.int 0], us, He.glo_ok hX hG (c.ck 20 rfl), h1, h2, F.kp, hv, fun F => .cons (.int 0) .nil, hb, fn_Yard_init hX hG c F⟩
theorem fn_Yard_many {fd : FuncData} (F : FunD K (d4).name (d4).qual (d4).params (d4).body (d4).scope ((d4).dvs K) ((d4).kws K) (He.fAd K (d4).at_) fd) : FnA P w K mg base 1 (He.fAd K (d4).at_) fd ["self"] (sp_Yard_many K) :=
  fnA_of (a := a_Yard_many K) F sc_Yard_many (len_Yard_many K) (fun cdv A outer s H E hr => ⟨_, (ss_one (s_ret (ea_callB c_len (He.free_ok hX hG (c.ck 6 rfl)) (ar_cons (ea_fld (ok := okT K) (ea_v 0) (fun C hC => (by have e : C = He.ga K "Rows" := hC; subst e; exact fd_ok (c.ck 9 rfl) (c.ck 10 rfl)))) ar_nil))))⟩) (law_Yard_many K)
theorem m_Rows_many : MF P w K mg base (He.ga K "Rows") "many" 1 ["self"] (sp_Yard_many K) := by
  obtain ⟨fd, F⟩ := c.df 4 (d := d4) rfl
  exact ⟨He.cls_ok (c.ck 9 rfl), _, fd, mt_ok (c.ck 26 rfl), (F.bindsN fun _ _ _ _ _ _ us hl => match us, hl with | [_], _ => rfl), fn_Yard_many hX hG c F⟩
theorem fn_Yard_things {fd : FuncData} (F : FunD K (d5).name (d5).qual (d5).params (d5).body (d5).scope ((d5).dvs K) ((d5).kws K) (He.fAd K (d5).at_) fd) : FnA P w K mg base 1 (He.fAd K (d5).at_) fd ["self"] (sp_Yard_things K) :=
  fnA_of (a := a_Yard_things K) F sc_Yard_things (len_Yard_things K) (fun cdv A outer s H E hr => ⟨_, (ss_one (s_ret (ea_callTy c_list (He.free_ok hX hG (c.ck 4 rfl)) (ar_cons (ea_fld (ok := okT K) (ea_v 0) (fun C hC => (by have e : C = He.ga K "Rows" := hC; subst e; exact fd_ok (c.ck 9 rfl) (c.ck 10 rfl)))) ar_nil))))⟩) (law_Yard_things K)
theorem m_Rows_things : MF P w K mg base (He.ga K "Rows") "things" 1 ["self"] (sp_Yard_things K) := by
  obtain ⟨fd, F⟩ := c.df 5 (d := d5) rfl
  exact ⟨He.cls_ok (c.ck 9 rfl), _, fd, mt_ok (c.ck 27 rfl), (F.bindsN fun _ _ _ _ _ _ us hl => match us, hl with | [_], _ => rfl), fn_Yard_things hX hG c F⟩
theorem fn_Rows_worth_of {fd : FuncData} (F : FunD K (d18).name (d18).qual (d18).params (d18).body (d18).scope ((d18).dvs K) ((d18).kws K) (He.fAd K (d18).at_) fd) : FnA P w K mg base 1 (He.fAd K (d18).at_) fd ["self", "heap"] (sp_Rows_worth_of K) :=
  fnA_of (a := a_Rows_worth_of K) F sc_Rows_worth_of (len_Rows_worth_of K) (fun cdv A outer s H E hr => ⟨_, (ss_cons (s_set (i := 2) ea_dnew sc_Rows_worth_of.nd)
 (ss_cons (s_for passT rfl (i_seq (ea_v 1)) (g_name (i := 3) sc_Rows_worth_of.nd) (ss_cons (s_set (i := 4) (ea_ix (ea_fld (ok := okT K) (ea_v 0) (fun C hC => (by have e : C = He.ga K "Rows" := hC; subst e; exact fd_ok (c.ck 9 rfl) (c.ck 14 rfl)))) (ea_v 3)) sc_Rows_worth_of.nd)
 (ss_cons (s_while passT (ta_din hr (ea_bits (ea_v 4)) (ea_v 2)) (ss_one (s_aug (i := 4) ip_xor (ea_dix hr (ea_v 2) (ea_bits (ea_v 4))) sc_Rows_worth_of.nd)))
 (ss_one (s_if (ta_cmp o_gt (ea_v 4) ea_int) (ss_one (s_dput hr (ea_v 4) (ea_v 2) (ea_bits (ea_v 4)))) ss_nil)))))
 (ss_one (s_ret (ea_callB c_lenD (He.free_ok hX hG (c.ck 6 rfl)) (ar_cons (ea_v 2) ar_nil))))))⟩) (law_Rows_worth_of K)
theorem m_Rows_worth_of : MF P w K mg base (He.ga K "Rows") "worth_of" 1 ["self", "heap"] (sp_Rows_worth_of K) := by
  obtain ⟨fd, F⟩ := c.df 18 (d := d18) rfl
  exact ⟨He.cls_ok (c.ck 9 rfl), _, fd, mt_ok (c.ck 28 rfl), (F.bindsN fun _ _ _ _ _ _ us hl => match us, hl with | [_, _], _ => rfl), fn_Rows_worth_of hX hG c F⟩
theorem fn_want_heap {fd : FuncData} (F : FunD K (d13).name (d13).qual (d13).params (d13).body (d13).scope ((d13).dvs K) ((d13).kws K) (He.fAd K (d13).at_) fd) : FnA P w K mg base 3 (He.fAd K (d13).at_) fd ["yard", "heap"] (sp_want_heap K) :=
  fnA_of (a := a_want_heap K) F sc_want_heap (len_want_heap K) (fun cdv A outer s H E hr => ⟨_, (ss_one (s_if (ta_not (ta_val (ea_call (g_is_heap hX hG c) (hr.mono (by decide)) takesT (ar_cons (ea_v 1) (ar_cons (ea_meth0 (ok := okT K) (ea_v 0) (fun C hC => (by have e : C = He.ga K "Rows" := hC; subst e; exact m_Rows_many hX hG c)) (hr.mono (by decide)) takesT) ar_nil))))) (ss_one s_never) ss_nil))⟩) (law_want_heap K)
theorem g_want_heap : GF P w K mg base "want_heap" 3 ["yard", "heap"] (sp_want_heap K) := by
  obtain ⟨fd, F⟩ := c.df 13 (d := d13) rfl
  exact ⟨_, fd, He.glo_ok hX hG (c.ck 29 rfl), F.kp, (F.bindsN fun _ _ _ _ _ _ us hl => match us, hl with | [_, _], _ => rfl), fn_want_heap hX hG c F⟩
theorem fn_Yard_worth {fd : FuncData} (F : FunD K (d6).name (d6).qual (d6).params (d6).body (d6).scope ((d6).dvs K) ((d6).kws K) (He.fAd K (d6).at_) fd) : FnA P w K mg base 4 (He.fAd K (d6).at_) fd ["self", "heap"] (sp_Yard_worth K) :=
  fnA_of (a := a_Yard_worth K) F sc_Yard_worth (len_Yard_worth K) (fun cdv A outer s H E hr => ⟨_, (ss_cons (s_expr (ea_call (g_want_heap hX hG c) (hr.mono (by decide)) takesT (ar_cons (ea_v 0) (ar_cons (ea_v 1) ar_nil))))
 (ss_one (s_ret (ea_meth (ok := okT K) (ea_v 0) (fun C hC => (by have e : C = He.ga K "Rows" := hC; subst e; exact m_Rows_worth_of hX hG c)) (hr.mono (by decide)) takesT (ar_cons (ea_callTy c_list (He.free_ok hX hG (c.ck 4 rfl)) (ar_cons (ea_v 1) ar_nil)) ar_nil)))))⟩) (law_Yard_worth K)
theorem m_Rows_worth : MF P w K mg base (He.ga K "Rows") "worth" 4 ["self", "heap"] (sp_Yard_worth K) := by
  obtain ⟨fd, F⟩ := c.df 6 (d := d6) rfl
  exact ⟨He.cls_ok (c.ck 9 rfl), _, fd, mt_ok (c.ck 30 rfl), (F.bindsN fun _ _ _ _ _ _ us hl => match us, hl with | [_, _], _ => rfl), fn_Yard_worth hX hG c F⟩
theorem fn_Yard_whole {fd : FuncData} (F : FunD K (d8).name (d8).qual (d8).params (d8).body (d8).scope ((d8).dvs K) ((d8).kws K) (He.fAd K (d8).at_) fd) : FnA P w K mg base 2 (He.fAd K (d8).at_) fd ["self"] (sp_Yard_whole K) :=
  fnA_of (a := a_Yard_whole K) F sc_Yard_whole (len_Yard_whole K) (fun cdv A outer s H E hr => ⟨_, (ss_one (s_ret (ea_meth (ok := okT K) (ea_v 0) (fun C hC => (by have e : C = He.ga K "Rows" := hC; subst e; exact m_Rows_worth_of hX hG c)) (hr.mono (by decide)) takesT (ar_cons (ea_meth0 (ok := okT K) (ea_v 0) (fun C hC => (by have e : C = He.ga K "Rows" := hC; subst e; exact m_Rows_things hX hG c)) (hr.mono (by decide)) takesT) ar_nil))))⟩) (law_Yard_whole K)
theorem m_Rows_whole : MF P w K mg base (He.ga K "Rows") "whole" 2 ["self"] (sp_Yard_whole K) := by
  obtain ⟨fd, F⟩ := c.df 8 (d := d8) rfl
  exact ⟨He.cls_ok (c.ck 9 rfl), _, fd, mt_ok (c.ck 31 rfl), (F.bindsN fun _ _ _ _ _ _ us hl => match us, hl with | [_], _ => rfl), fn_Yard_whole hX hG c F⟩
theorem fn_Yard_len {fd : FuncData} (F : FunD K (d12).name (d12).qual (d12).params (d12).body (d12).scope ((d12).dvs K) ((d12).kws K) (He.fAd K (d12).at_) fd) : FnA P w K mg base 1 (He.fAd K (d12).at_) fd ["self"] (sp_Yard_len K) :=
  fnA_of (a := a_Yard_len K) F sc_Yard_len (len_Yard_len K) (fun cdv A outer s H E hr => ⟨_, (ss_one (s_ret (ea_callB c_len (He.free_ok hX hG (c.ck 6 rfl)) (ar_cons (ea_fld (ok := okT K) (ea_v 0) (fun C hC => (by have e : C = He.ga K "Rows" := hC; subst e; exact fd_ok (c.ck 9 rfl) (c.ck 10 rfl)))) ar_nil))))⟩) (law_Yard_len K)
theorem l_Rows : LenF P w K mg base (He.ga K "Rows") 1 (sp_Yard_len K) := by
  obtain ⟨fd, F⟩ := c.df 12 (d := d12) rfl
  have k := mt_ok (c.ck 32 rfl)
  exact ⟨_, fd, _, k.at_, k.fn, (F.bindsN fun _ _ _ _ _ _ us hl => match us, hl with | [_], _ => rfl), fn_Yard_len hX hG c F⟩
theorem fn_want_list {fd : FuncData} (F : FunD K (d14).name (d14).qual (d14).params (d14).body (d14).scope ((d14).dvs K) ((d14).kws K) (He.fAd K (d14).at_) fd) : FnA P w K mg base 1 (He.fAd K (d14).at_) fd ["things"] (sp_want_list K) :=
  fnA_of (a := a_want_list K) F sc_want_list (len_want_list K) (fun cdv A outer s H E hr => ⟨_, (ss_cons (s_if (ta_not (ta_val (ea_callB (c_isi (ok := okT K) (fun C hC => (by have e : C = He.ga K "Rows" := hC; subst e; exact isi_ok (c.ck 1 rfl)))) (He.free_ok hX hG (c.ck 2 rfl)) (ar_cons (ea_v 0) (ar_cons (ea_bty (He.free_ok hX hG (c.ck 4 rfl))) ar_nil))))) (ss_one s_never) ss_nil)
 (ss_one (s_if (ta_cmp o_gt (ea_callB c_len (He.free_ok hX hG (c.ck 6 rfl)) (ar_cons (ea_v 0) ar_nil)) (ea_gint (He.int_ok hX hG (c.ck 12 rfl)))) (ss_one s_never) ss_nil)))⟩) (law_want_list K)
theorem g_want_list : GF P w K mg base "want_list" 1 ["things"] (sp_want_list K) := by
  obtain ⟨fd, F⟩ := c.df 14 (d := d14) rfl
  exact ⟨_, fd, He.glo_ok hX hG (c.ck 33 rfl), F.kp, (F.bindsN fun _ _ _ _ _ _ us hl => match us, hl with | [_], _ => rfl), fn_want_list hX hG c F⟩
theorem fn_want_each {fd : FuncData} (F : FunD K (d15).name (d15).qual (d15).params (d15).body (d15).scope ((d15).dvs K) ((d15).kws K) (He.fAd K (d15).at_) fd) : FnA P w K mg base 1 (He.fAd K (d15).at_) fd ["rights"] (sp_want_each K) :=
  fnA_of (a := a_want_each K) F sc_want_each (len_want_each K) (fun cdv A outer s H E hr => ⟨_, (ss_one (s_if (ta_not (ta_val (ea_callB (c_all rfl) (He.free_ok hX hG (c.ck 5 rfl)) (ar_cons (ea_v 0) ar_nil)))) (ss_one s_never) ss_nil))⟩) (law_want_each K)
theorem g_want_each : GF P w K mg base "want_each" 1 ["rights"] (sp_want_each K) := by
  obtain ⟨fd, F⟩ := c.df 15 (d := d15) rfl
  exact ⟨_, fd, He.glo_ok hX hG (c.ck 34 rfl), F.kp, (F.bindsN fun _ _ _ _ _ _ us hl => match us, hl with | [_], _ => rfl), fn_want_each hX hG c F⟩
theorem fn_Rows_init {fd : FuncData} (F : FunD K (d16).name (d16).qual (d16).params (d16).body (d16).scope ((d16).dvs K) ((d16).kws K) (He.fAd K (d16).at_) fd) : FnA P w K mg base 2 (He.fAd K (d16).at_) fd ["self", "rows"] (sp_Rows_init K) :=
  fnA_of (a := a_Rows_init K) F sc_Rows_init (len_Rows_init K) (fun cdv A outer s H E hr => ⟨_, (ss_cons (s_expr (ea_call (g_want_list hX hG c) (hr.mono (by decide)) takesT (ar_cons (ea_v 1) ar_nil)))
 (ss_cons (s_expr (ea_call (g_want_each hX hG c) (hr.mono (by decide)) takesT (ar_cons (ea_lc rfl sc_Rows_init.nd (i_seq (ea_v 1)) (own := [("row", 2)]) (blkOk_by (N := ["self", "rows", "row"]) (sc := defScope (inClass (top 15) 0)) (by decide +kernel)) (wgt_name (by decide)) (fun s H C cl fp => (g_name (i := 2) sc_Rows_init.nd)) (fun s H C cl fp => ⟨_, ts_nil⟩) (fun s H C cl fp => ⟨_, (ea_call (g_is_number hX hG c) (hr.mono (by decide)) tk0 (ar_cons (ea_v 2) (ar_cons (ea_gint (He.int_ok hX hG (c.ck 13 rfl))) ar_nil)))⟩) (s, H, 0, [], [])) ar_nil)))
 (ss_cons (s_expr (ea_clsm (cm_Yard_init hX hG c) (hr.mono (by decide)) takesT (ar_cons (ea_v 0) (ar_cons (ea_callB c_len (He.free_ok hX hG (c.ck 6 rfl)) (ar_cons (ea_v 1) ar_nil)) ar_nil))))
 (ss_one (s_fld (ok := okT K) (ea_callTy c_list (He.free_ok hX hG (c.ck 4 rfl)) (ar_cons (ea_v 1) ar_nil)) (ea_v 0) (fun C hC => (by have e : C = He.ga K "Rows" := hC; subst e; exact fd_ok (c.ck 9 rfl) (c.ck 14 rfl))))))))⟩) (law_Rows_init K)
theorem g_Rows : CF P w K mg base "Rows" (He.ga K "Rows") 2 ["self", "rows"] (sp_Rows_init K) := by
  obtain ⟨fd, F⟩ := c.df 16 (d := d16) rfl
  exact ⟨_, fd, He.glo_ok hX hG (c.ck 36 rfl), mk_ok (c.ck 35 rfl), (F.bindsN fun _ _ _ _ _ _ us hl => match us, hl with | [_, _], _ => rfl), fn_Rows_init hX hG c F⟩
theorem fn_Rows_rows {fd : FuncData} (F : FunD K (d17).name (d17).qual (d17).params (d17).body (d17).scope ((d17).dvs K) ((d17).kws K) (He.fAd K (d17).at_) fd) : FnA P w K mg base 1 (He.fAd K (d17).at_) fd ["self"] (sp_Rows_rows K) :=
  fnA_of (a := a_Rows_rows K) F sc_Rows_rows (len_Rows_rows K) (fun cdv A outer s H E hr => ⟨_, (ss_one (s_ret (ea_callTy c_list (He.free_ok hX hG (c.ck 4 rfl)) (ar_cons (ea_fld (ok := okT K) (ea_v 0) (fun C hC => (by have e : C = He.ga K "Rows" := hC; subst e; exact fd_ok (c.ck 9 rfl) (c.ck 14 rfl)))) ar_nil))))⟩) (law_Rows_rows K)
theorem m_Rows_rows : MF P w K mg base (He.ga K "Rows") "rows" 1 ["self"] (sp_Rows_rows K) := by
  obtain ⟨fd, F⟩ := c.df 17 (d := d17) rfl
  exact ⟨He.cls_ok (c.ck 9 rfl), _, fd, mt_ok (c.ck 37 rfl), (F.bindsN fun _ _ _ _ _ _ us hl => match us, hl with | [_], _ => rfl), fn_Rows_rows hX hG c F⟩
theorem fn_pot {fd : FuncData} (F : FunD K (d22).name (d22).qual (d22).params (d22).body (d22).scope ((d22).dvs K) ((d22).kws K) (He.fAd K (d22).at_) fd) : FnA P w K mg base 1 (He.fAd K (d22).at_) fd ["_law_script", "_law_k"] (sp_pot K) :=
  fnA_of (a := a_pot K) F sc_pot (len_pot K) (fun cdv A outer s H E hr => ⟨_, (ss_cons (s_set (i := 2) ea_int sc_pot.nd)
 (ss_cons (s_if (ta_cmp o_lt (ea_v 1) (ea_callB c_len (He.free_ok hX hG (c.ck 6 rfl)) (ar_cons (ea_v 0) ar_nil))) (ss_one (s_set (i := 2) (ea_callB c_abs (He.free_ok hX hG (c.ck 15 rfl)) (ar_cons (ea_ix (ea_v 0) (ea_v 1)) ar_nil)) sc_pot.nd)) ss_nil)
 (ss_one (s_ret (ea_lst (ar_cons (ea_callB (c_max2 rfl) (He.free_ok hX hG (c.ck 16 rfl)) (ar_cons ea_int (ar_cons (ea_op o_sub (ea_v 2) (ea_op o_pow ea_int ea_int)) ar_nil))) (ar_cons (ea_op o_add (ea_op o_mod (ea_op o_pow (ea_op o_add (ea_op o_add (ea_op o_mod (ea_v 2) ea_int) (ea_op o_mul ea_int (ea_v 1))) ea_int) ea_int) ea_int) ea_int) ar_nil)))))))⟩) (law_pot K)
theorem g_pot : GF P w K mg base "_law_pot" 1 ["_law_script", "_law_k"] (sp_pot K) := by
  obtain ⟨fd, F⟩ := c.df 22 (d := d22) rfl
  exact ⟨_, fd, He.glo_ok hX hG (c.ck 38 rfl), F.kp, (F.bindsN fun _ _ _ _ _ _ us hl => match us, hl with | [_, _], _ => rfl), fn_pot hX hG c F⟩
theorem fn_take {fd : FuncData} (F : FunD K (d23).name (d23).qual (d23).params (d23).body (d23).scope ((d23).dvs K) ((d23).kws K) (He.fAd K (d23).at_) fd) : FnA P w K mg base 1 (He.fAd K (d23).at_) fd ["_law_pot_here", "_law_many"] (sp_take K) :=
  fnA_of (a := a_take K) F sc_take (len_take K) (fun cdv A outer s H E hr => ⟨_, (ss_cons (s_if (ta_cmp o_gt (ea_ix (ea_v 0) ea_int) ea_int) (ss_cons (s_asg (ea_callB c_divmod (He.free_ok hX hG (c.ck 17 rfl)) (ar_cons (ea_ix (ea_v 0) ea_int) (ar_cons (ea_v 1) ar_nil))) (g_tup (n := 2) rfl (gs_cons (g_sub (ea_v 0) ea_int) (gs_cons (g_name (i := 2) sc_take.nd) gs_nil)) wofAny))
 (ss_one (s_ret (ea_v 2)))) ss_nil)
 (ss_cons (s_asg (ea_op o_mod (ea_op o_add (ea_op o_mul (ea_ix (ea_v 0) ea_int) ea_int) ea_int) ea_int) (g_sub (ea_v 0) ea_int))
 (ss_one (s_ret (ea_op o_mod (ea_op o_fdiv (ea_op o_mod (ea_op o_mul (ea_ix (ea_v 0) ea_int) (ea_ix (ea_v 0) ea_int)) ea_int) ea_int) (ea_v 1))))))⟩) (law_take K)
theorem g_take : GF P w K mg base "_law_take" 1 ["_law_pot_here", "_law_many"] (sp_take K) := by
  obtain ⟨fd, F⟩ := c.df 23 (d := d23) rfl
  exact ⟨_, fd, He.glo_ok hX hG (c.ck 39 rfl), F.kp, (F.bindsN fun _ _ _ _ _ _ us hl => match us, hl with | [_, _], _ => rfl), fn_take hX hG c F⟩
theorem fn_among {fd : FuncData} (F : FunD K (d24).name (d24).qual (d24).params (d24).body (d24).scope ((d24).dvs K) ((d24).kws K) (He.fAd K (d24).at_) fd) : FnA P w K mg base 2 (He.fAd K (d24).at_) fd ["_law_pot_here", "_law_some"] (sp_among K) :=
  fnA_of (a := a_among K) F sc_among (len_among K) (fun cdv A outer s H E hr => ⟨_, (ss_one (s_ret (ea_ix (ea_v 1) (ea_call (g_take hX hG c) (hr.mono (by decide)) takesT (ar_cons (ea_v 0) (ar_cons (ea_callB c_len (He.free_ok hX hG (c.ck 6 rfl)) (ar_cons (ea_v 1) ar_nil)) ar_nil))))))⟩) (law_among K)
theorem g_among : GF P w K mg base "_law_among" 2 ["_law_pot_here", "_law_some"] (sp_among K) := by
  obtain ⟨fd, F⟩ := c.df 24 (d := d24) rfl
  exact ⟨_, fd, He.glo_ok hX hG (c.ck 40 rfl), F.kp, (F.bindsN fun _ _ _ _ _ _ us hl => match us, hl with | [_, _], _ => rfl), fn_among hX hG c F⟩
theorem fn_shuffled {fd : FuncData} (F : FunD K (d25).name (d25).qual (d25).params (d25).body (d25).scope ((d25).dvs K) ((d25).kws K) (He.fAd K (d25).at_) fd) : FnA P w K mg base 2 (He.fAd K (d25).at_) fd ["_law_pot_here", "_law_some"] (sp_shuffled K) :=
  fnA_of (a := a_shuffled K) F sc_shuffled (len_shuffled K) (fun cdv A outer s H E hr => ⟨_, (ss_cons (s_set (i := 2) (ea_callTy c_list (He.free_ok hX hG (c.ck 4 rfl)) (ar_cons (ea_v 1) ar_nil)) sc_shuffled.nd)
 (ss_cons (s_set (i := 3) (ea_lst ar_nil) sc_shuffled.nd)
 (ss_cons (s_for passT rfl (i_range1 (He.free_ok hX hG (c.ck 8 rfl)) (ar_cons (ea_callB c_len (He.free_ok hX hG (c.ck 6 rfl)) (ar_cons (ea_v 1) ar_nil)) ar_nil)) (g_name (i := 4) sc_shuffled.nd) (ss_one (s_expr (ea_bm m_append PySem.F.slot_list_append PySem.F.type_list_append (ea_v 3) (ar_cons (ea_bm m_popAt PySem.F.slot_list_pop PySem.F.type_list_pop (ea_v 2) (ar_cons (ea_call (g_take hX hG c) (hr.mono (by decide)) takesT (ar_cons (ea_v 0) (ar_cons (ea_callB c_len (He.free_ok hX hG (c.ck 6 rfl)) (ar_cons (ea_v 2) ar_nil)) ar_nil))) ar_nil)) ar_nil)))))
 (ss_one (s_ret (ea_v 3))))))⟩) (law_shuffled K)
theorem g_shuffled : GF P w K mg base "_law_shuffled" 2 ["_law_pot_here", "_law_some"] (sp_shuffled K) := by
  obtain ⟨fd, F⟩ := c.df 25 (d := d25) rfl
  exact ⟨_, fd, He.glo_ok hX hG (c.ck 41 rfl), F.kp, (F.bindsN fun _ _ _ _ _ _ us hl => match us, hl with | [_, _], _ => rfl), fn_shuffled hX hG c F⟩
theorem fn_rows {fd : FuncData} (F : FunD K (d26).name (d26).qual (d26).params (d26).body (d26).scope ((d26).dvs K) ((d26).kws K) (He.fAd K (d26).at_) fd) : FnA P w K mg base 3 (He.fAd K (d26).at_) fd ["_law_pot_here"] (sp_rows K) :=
  fnA_of (a := a_rows K) F sc_rows (len_rows K) (fun cdv A outer s H E hr => ⟨_, (ss_cons (s_set (i := 1) (ea_ix (ea_lst (ar_cons ea_int (ar_cons ea_int (ar_cons ea_int (ar_cons ea_int ar_nil))))) (ea_call (g_take hX hG c) (hr.mono (by decide)) takesT (ar_cons (ea_v 0) (ar_cons ea_int ar_nil)))) sc_rows.nd)
 (ss_cons (s_set (i := 2) (ea_ix (ea_lst (ar_cons ea_int (ar_cons (ea_call (g_take hX hG c) (hr.mono (by decide)) takesT (ar_cons (ea_v 0) (ar_cons ea_int ar_nil))) (ar_cons (ea_call (g_take hX hG c) (hr.mono (by decide)) takesT (ar_cons (ea_v 0) (ar_cons ea_int ar_nil))) ar_nil)))) (ea_call (g_take hX hG c) (hr.mono (by decide)) takesT (ar_cons (ea_v 0) (ar_cons ea_int ar_nil)))) sc_rows.nd)
 (ss_cons (s_set (i := 3) (ea_lst ar_nil) sc_rows.nd)
 (ss_cons (s_for passT rfl (i_range1 (He.free_ok hX hG (c.ck 8 rfl)) (ar_cons (ea_v 2) ar_nil)) (g_name (i := 4) sc_rows.nd) (ss_cons (s_set (i := 5) (ea_call (g_take hX hG c) (hr.mono (by decide)) takesT (ar_cons (ea_v 0) (ar_cons (ea_v 1) ar_nil))) sc_rows.nd)
 (ss_cons (s_set (i := 6) (ea_call (g_take hX hG c) (hr.mono (by decide)) takesT (ar_cons (ea_v 0) (ar_cons ea_int ar_nil))) sc_rows.nd)
 (ss_cons (s_if (WstA.t (wa_and (ta_cmp (o_ne ⟨_, hr⟩) (ea_v 3) (ea_lst ar_nil)) (wa_and1 (ta_cmp o_lt (ea_v 6) ea_int)))) (ss_one (s_set (i := 5) (ea_ix (ea_lst (ar_cons (ea_call (g_among hX hG c) (hr.mono (by decide)) takesT (ar_cons (ea_v 0) (ar_cons (ea_v 3) ar_nil))) (ar_cons (ea_op o_bxor (ea_call (g_among hX hG c) (hr.mono (by decide)) takesT (ar_cons (ea_v 0) (ar_cons (ea_v 3) ar_nil))) (ea_call (g_among hX hG c) (hr.mono (by decide)) takesT (ar_cons (ea_v 0) (ar_cons (ea_v 3) ar_nil)))) ar_nil))) (ea_v 6)) sc_rows.nd)) ss_nil)
 (ss_one (s_expr (ea_bm m_append PySem.F.slot_list_append PySem.F.type_list_append (ea_v 3) (ar_cons (ea_v 5) ar_nil))))))))
 (ss_one (s_ret (ea_v 3)))))))⟩) (law_rows K)
theorem g_rows : GF P w K mg base "_law_rows" 3 ["_law_pot_here"] (sp_rows K) := by
  obtain ⟨fd, F⟩ := c.df 26 (d := d26) rfl
  exact ⟨_, fd, He.glo_ok hX hG (c.ck 42 rfl), F.kp, (F.bindsN fun _ _ _ _ _ _ us hl => match us, hl with | [_], _ => rfl), fn_rows hX hG c F⟩
theorem fn_free {fd : FuncData} (F : FunD K (d27).name (d27).qual (d27).params (d27).body (d27).scope ((d27).dvs K) ((d27).kws K) (He.fAd K (d27).at_) fd) : FnA P w K mg base 1 (He.fAd K (d27).at_) fd ["_law_rows_here"] (sp_free K) :=
  fnA_of (a := a_free K) F sc_free (len_free K) (fun cdv A outer s H E hr => ⟨_, (ss_cons (s_set (i := 1) (ea_dsp1 (k := .inl 0) (c := .bl true) (d := .bl true) pe_int pe_bl (fun _ => .bl true)) sc_free.nd)
 (ss_cons (s_set (i := 2) ea_int sc_free.nd)
 (ss_cons (s_for passT rfl (i_seq (ea_v 0)) (g_name (i := 3) sc_free.nd) (ss_one (s_if (ta_dnotin hr (ea_v 3) (ea_v 1)) (ss_cons (s_for passT rfl (i_seq (ea_callTy (c_listD rfl) (He.free_ok hX hG (c.ck 4 rfl)) (ar_cons (ea_v 1) ar_nil))) (g_name (i := 4) sc_free.nd) (ss_one (s_dput hr ea_bl (ea_v 1) (ea_op o_bxor (ea_v 4) (ea_v 3)))))
 (ss_one (s_set (i := 2) (ea_op o_add (ea_v 2) ea_int) sc_free.nd))) ss_nil)))
 (ss_one (s_ret (ea_v 2))))))⟩) (law_free K)
theorem g_free : GF P w K mg base "_law_free" 1 ["_law_rows_here"] (sp_free K) := by
  obtain ⟨fd, F⟩ := c.df 27 (d := d27) rfl
  exact ⟨_, fd, He.glo_ok hX hG (c.ck 43 rfl), F.kp, (F.bindsN fun _ _ _ _ _ _ us hl => match us, hl with | [_], _ => rfl), fn_free hX hG c F⟩
theorem fn_heap {fd : FuncData} (F : FunD K (d28).name (d28).qual (d28).params (d28).body (d28).scope ((d28).dvs K) ((d28).kws K) (He.fAd K (d28).at_) fd) : FnA P w K mg base 3 (He.fAd K (d28).at_) fd ["_law_pot_here", "_law_many"] (sp_heap K) :=
  fnA_of (a := a_heap K) F sc_heap (len_heap K) (fun cdv A outer s H E hr => ⟨_, (ss_one (s_ret (ea_slice (ea_call (g_shuffled hX hG c) (hr.mono (by decide)) takesT (ar_cons (ea_v 0) (ar_cons (ea_listRg1 rfl (He.free_ok hX hG (c.ck 4 rfl)) (He.free_ok hX hG (c.ck 8 rfl)) (ea_v 1)) ar_nil))) o_none (o_some (ea_call (g_take hX hG c) (hr.mono (by decide)) takesT (ar_cons (ea_v 0) (ar_cons (ea_op o_add (ea_v 1) ea_int) ar_nil)))))))⟩) (law_heap K)
theorem g_heap : GF P w K mg base "_law_heap" 3 ["_law_pot_here", "_law_many"] (sp_heap K) := by
  obtain ⟨fd, F⟩ := c.df 28 (d := d28) rfl
  exact ⟨_, fd, He.glo_ok hX hG (c.ck 44 rfl), F.kp, (F.bindsN fun _ _ _ _ _ _ us hl => match us, hl with | [_, _], _ => rfl), fn_heap hX hG c F⟩
theorem fn_is {fd : FuncData} (F : FunD K (d29).name (d29).qual (d29).params (d29).body (d29).scope ((d29).dvs K) ((d29).kws K) (He.fAd K (d29).at_) fd) : FnA P w K mg base 1 (He.fAd K (d29).at_) fd ["_law_found", "_law_due"] (sp_is K) :=
  fnA_of (a := a_is K) F sc_is (len_is K) (fun cdv A outer s H E hr => ⟨_, (ss_one (s_ret (ea_and (ea_callB (c_isi (ok := okT K) (fun C hC => (by have e : C = He.ga K "Rows" := hC; subst e; exact isi_ok (c.ck 1 rfl)))) (He.free_ok hX hG (c.ck 2 rfl)) (ar_cons (ea_v 0) (ar_cons (ea_bty (He.free_ok hX hG (c.ck 0 rfl))) ar_nil))) (ea_and (ea_not (ea_callB (c_isi (ok := okT K) (fun C hC => (by have e : C = He.ga K "Rows" := hC; subst e; exact isi_ok (c.ck 1 rfl)))) (He.free_ok hX hG (c.ck 2 rfl)) (ar_cons (ea_v 0) (ar_cons (ea_bty (He.free_ok hX hG (c.ck 3 rfl))) ar_nil)))) (ea_one (ea_cmp (o_eq ⟨_, hr⟩) (ea_v 0) (ea_v 1)))))))⟩) (law_is K)
theorem g_is : GF P w K mg base "_law_is" 1 ["_law_found", "_law_due"] (sp_is K) := by
  obtain ⟨fd, F⟩ := c.df 29 (d := d29) rfl
  exact ⟨_, fd, He.glo_ok hX hG (c.ck 45 rfl), F.kp, (F.bindsN fun _ _ _ _ _ _ us hl => match us, hl with | [_, _], _ => rfl), fn_is hX hG c F⟩
theorem fn_worth_right {fd : FuncData} (F : FunD K (d30).name (d30).qual (d30).params (d30).body (d30).scope ((d30).dvs K) ((d30).kws K) (He.fAd K (d30).at_) fd) : FnA P w K mg base 5 (He.fAd K (d30).at_) fd ["_law_yard", "_law_other", "_law_rows_here", "_law_heap_here"] (sp_worth_right K) :=
  fnA_of (a := a_worth_right K) F sc_worth_right (len_worth_right K) (fun cdv A outer s H E hr => ⟨_, (ss_cons (s_set (i := 4) (ea_callTy c_list (He.free_ok hX hG (c.ck 4 rfl)) (ar_cons (ea_v 3) ar_nil)) sc_worth_right.nd)
 (ss_cons (s_set (i := 5) (ea_call (g_free hX hG c) (hr.mono (by decide)) takesT (ar_cons (ea_lc rfl sc_worth_right.nd (i_seq (ea_v 3)) (own := [("_law_k", 6)]) (blkOk_by (N := ["_law_yard", "_law_other", "_law_rows_here", "_law_heap_here", "_law_handed", "_law_due", "_law_k", "_law_turned", "_law_more"]) (sc := defScope (top 25)) (by decide +kernel)) (wgt_name (by decide)) (fun s H C cl fp => (g_name (i := 6) sc_worth_right.nd)) (fun s H C cl fp => ⟨_, ts_nil⟩) (fun s H C cl fp => ⟨_, (ea_ix (ea_v 2) (ea_v 6))⟩) (s, H, 0, [], [])) ar_nil)) sc_worth_right.nd)
 (ss_cons (s_setLc (i := 7) rfl sc_worth_right.nd (i_seq (ea_v 3)) (own := [("_law_k", 6)]) (blkOk_by (N := ["_law_yard", "_law_other", "_law_rows_here", "_law_heap_here", "_law_handed", "_law_due", "_law_k", "_law_turned", "_law_more"]) (sc := defScope (top 25)) (by decide +kernel)) (wgt_name (by decide)) (fun s H C cl fp => (g_name (i := 6) sc_worth_right.nd)) (fun s H C cl fp => ⟨_, ts_nil⟩) (fun s H C cl fp => ⟨_, (ea_op o_sub (ea_op o_sub (ea_callB c_len (He.free_ok hX hG (c.ck 6 rfl)) (ar_cons (ea_v 2) ar_nil)) ea_int) (ea_v 6))⟩) (s, H, 0, [], []))
 (ss_cons (s_if (WstA.t (wa_or (ta_not (ta_val (ea_call (g_is hX hG c) (hr.mono (by decide)) takesT (ar_cons (ea_meth (ok := okT K) (ea_v 0) (fun C hC => (by have e : C = He.ga K "Rows" := hC; subst e; exact m_Rows_worth hX hG c)) (hr.mono (by decide)) takesT (ar_cons (ea_v 4) ar_nil)) (ar_cons (ea_v 5) ar_nil))))) (wa_or (ta_not (ta_val (ea_call (g_is hX hG c) (hr.mono (by decide)) takesT (ar_cons (ea_meth (ok := okT K) (ea_v 1) (fun C hC => (by have e : C = He.ga K "Rows" := hC; subst e; exact m_Rows_worth hX hG c)) (hr.mono (by decide)) takesT (ar_cons (ea_v 7) ar_nil)) (ar_cons (ea_v 5) ar_nil))))) (wa_or1 (ta_cmp (o_ne ⟨_, hr⟩) (ea_v 4) (ea_v 3)))))) (ss_one (s_ret ea_bl)) ss_nil)
 (ss_cons (s_if (WstA.t (wa_and (ta_cmp o_gt (ea_callB c_len (He.free_ok hX hG (c.ck 6 rfl)) (ar_cons (ea_v 3) ar_nil)) ea_int) (wa_and1 (ta_cmp o_lt (ea_callB c_len (He.free_ok hX hG (c.ck 6 rfl)) (ar_cons (ea_v 2) ar_nil)) ea_int)))) (ss_cons (s_set (i := 8) (ea_make (g_Rows hX hG c) (hr.mono (by decide)) takesT (ar_cons (ea_op o_add (ea_v 2) (ea_lst (ar_cons (ea_op o_bxor (ea_ix (ea_v 2) (ea_ix (ea_v 3) ea_int)) (ea_ix (ea_v 2) (ea_ix (ea_v 3) (ea_un u_neg ea_int)))) ar_nil))) ar_nil)) sc_worth_right.nd)
 (ss_one (s_if (ta_not (ta_val (ea_call (g_is hX hG c) (hr.mono (by decide)) takesT (ar_cons (ea_meth (ok := okT K) (ea_v 8) (fun C hC => (by have e : C = He.ga K "Rows" := hC; subst e; exact m_Rows_worth hX hG c)) (hr.mono (by decide)) takesT (ar_cons (ea_op o_add (ea_v 3) (ea_lst (ar_cons (ea_callB c_len (He.free_ok hX hG (c.ck 6 rfl)) (ar_cons (ea_v 2) ar_nil)) ar_nil))) ar_nil)) (ar_cons (ea_v 5) ar_nil))))) (ss_one (s_ret ea_bl)) ss_nil))) ss_nil)
 (ss_one (s_ret (ea_call (g_is hX hG c) (hr.mono (by decide)) takesT (ar_cons (ea_meth (ok := okT K) (ea_v 0) (fun C hC => (by have e : C = He.ga K "Rows" := hC; subst e; exact m_Rows_worth hX hG c)) (hr.mono (by decide)) takesT (ar_cons (ea_v 4) ar_nil)) (ar_cons (ea_v 5) ar_nil))))))))))⟩) (law_worth_right K)
theorem g_worth_right : GF P w K mg base "_law_worth_right" 5 ["_law_yard", "_law_other", "_law_rows_here", "_law_heap_here"] (sp_worth_right K) := by
  obtain ⟨fd, F⟩ := c.df 30 (d := d30) rfl
  exact ⟨_, fd, He.glo_ok hX hG (c.ck 46 rfl), F.kp, (F.bindsN fun _ _ _ _ _ _ us hl => match us, hl with | [_, _, _, _], _ => rfl), fn_worth_right hX hG c F⟩
theorem fn_told {fd : FuncData} (F : FunD K (d31).name (d31).qual (d31).params (d31).body (d31).scope ((d31).dvs K) ((d31).kws K) (He.fAd K (d31).at_) fd) : FnA P w K mg base 3 (He.fAd K (d31).at_) fd ["_law_yard", "_law_rows_here"] (sp_told K) :=
  fnA_of (a := a_told K) F sc_told (len_told K) (fun cdv A outer s H E hr => ⟨_, (ss_cons (s_set (i := 2) (ea_listRg1 rfl (He.free_ok hX hG (c.ck 4 rfl)) (He.free_ok hX hG (c.ck 8 rfl)) (ea_callB c_len (He.free_ok hX hG (c.ck 6 rfl)) (ar_cons (ea_v 1) ar_nil))) sc_told.nd)
 (ss_cons (s_set (i := 3) (ea_lst (ar_cons (ea_meth0 (ok := okT K) (ea_v 0) (fun C hC => (by have e : C = He.ga K "Rows" := hC; subst e; exact m_Rows_things hX hG c)) (hr.mono (by decide)) takesT) (ar_cons (ea_meth0 (ok := okT K) (ea_v 0) (fun C hC => (by have e : C = He.ga K "Rows" := hC; subst e; exact m_Rows_rows hX hG c)) (hr.mono (by decide)) takesT) ar_nil))) sc_told.nd)
 (ss_cons (s_if (ta_cmp (o_ne ⟨_, hr⟩) (ea_callB (c_repr ⟨_, hr⟩) (He.free_ok hX hG (c.ck 18 rfl)) (ar_cons (ea_v 3) ar_nil)) (ea_callB (c_repr ⟨_, hr⟩) (He.free_ok hX hG (c.ck 18 rfl)) (ar_cons (ea_lst (ar_cons (ea_v 2) (ar_cons (ea_v 1) ar_nil))) ar_nil))) (ss_one (s_ret ea_bl)) ss_nil)
 (ss_cons (s_expr (ea_bm m_append PySem.F.slot_list_append PySem.F.type_list_append (ea_ix (ea_v 3) ea_int) (ar_cons ea_int ar_nil)))
 (ss_cons (s_expr (ea_bm0 m_clear PySem.F.slot_list_clear PySem.F.type_list_clear (ea_ix (ea_v 3) ea_int)))
 (ss_cons (s_if (WstA.t (wa_or (ta_not (ta_val (ea_call (g_is hX hG c) (hr.mono (by decide)) takesT (ar_cons (ea_meth0 (ok := okT K) (ea_v 0) (fun C hC => (by have e : C = He.ga K "Rows" := hC; subst e; exact m_Rows_many hX hG c)) (hr.mono (by decide)) takesT) (ar_cons (ea_callB c_len (He.free_ok hX hG (c.ck 6 rfl)) (ar_cons (ea_v 1) ar_nil)) ar_nil))))) (wa_or (ta_cmp (o_ne ⟨_, hr⟩) (ea_callB (c_lenO (ok := okT K) (fun C hC => (by have e : C = He.ga K "Rows" := hC; subst e; exact l_Rows hX hG c)) (hr.mono (by decide))) (He.free_ok hX hG (c.ck 6 rfl)) (ar_cons (ea_v 0) ar_nil)) (ea_callB c_len (He.free_ok hX hG (c.ck 6 rfl)) (ar_cons (ea_v 1) ar_nil))) (wa_or1 (ta_not (ta_val (ea_call (g_is hX hG c) (hr.mono (by decide)) takesT (ar_cons (ea_meth0 (ok := okT K) (ea_v 0) (fun C hC => (by have e : C = He.ga K "Rows" := hC; subst e; exact m_Rows_whole hX hG c)) (hr.mono (by decide)) takesT) (ar_cons (ea_call (g_free hX hG c) (hr.mono (by decide)) takesT (ar_cons (ea_v 1) ar_nil)) ar_nil))))))))) (ss_one (s_ret ea_bl)) ss_nil)
 (ss_one (s_ret (ea_and (ea_cmp (o_eq ⟨_, hr⟩) (ea_meth0 (ok := okT K) (ea_v 0) (fun C hC => (by have e : C = He.ga K "Rows" := hC; subst e; exact m_Rows_things hX hG c)) (hr.mono (by decide)) takesT) (ea_v 2)) (ea_one (ea_cmp (o_eq ⟨_, hr⟩) (ea_meth0 (ok := okT K) (ea_v 0) (fun C hC => (by have e : C = He.ga K "Rows" := hC; subst e; exact m_Rows_rows hX hG c)) (hr.mono (by decide)) takesT) (ea_v 1))))))))))))⟩) (law_told K)
theorem g_told : GF P w K mg base "_law_told" 3 ["_law_yard", "_law_rows_here"] (sp_told K) := by
  obtain ⟨fd, F⟩ := c.df 31 (d := d31) rfl
  exact ⟨_, fd, He.glo_ok hX hG (c.ck 47 rfl), F.kp, (F.bindsN fun _ _ _ _ _ _ us hl => match us, hl with | [_, _], _ => rfl), fn_told hX hG c F⟩
theorem fn_law {fd : FuncData} (F : FunD K (d32).name (d32).qual (d32).params (d32).body (d32).scope ((d32).dvs K) ((d32).kws K) (He.fAd K (d32).at_) fd) : FnA P w K mg base 6 (He.fAd K (d32).at_) fd ["_law_script"] (sp_law K) :=
  fnA_of (a := a_law K) F sc_law (len_law K) (fun cdv A outer s H E hr => ⟨_, (ss_cons (s_for passT rfl (i_range1 (He.free_ok hX hG (c.ck 8 rfl)) (ar_cons (ea_callB (c_max2 rfl) (He.free_ok hX hG (c.ck 16 rfl)) (ar_cons ea_int (ar_cons (ea_callB (c_min2 rfl) (He.free_ok hX hG (c.ck 19 rfl)) (ar_cons ea_int (ar_cons (ea_callB c_len (He.free_ok hX hG (c.ck 6 rfl)) (ar_cons (ea_v 0) ar_nil)) ar_nil))) ar_nil))) ar_nil)) (g_name (i := 1) sc_law.nd) (ss_cons (s_set (i := 2) (ea_call (g_pot hX hG c) (hr.mono (by decide)) takesT (ar_cons (ea_v 0) (ar_cons (ea_v 1) ar_nil))) sc_law.nd)
 (ss_cons (s_set (i := 3) (ea_call (g_rows hX hG c) (hr.mono (by decide)) takesT (ar_cons (ea_v 2) ar_nil)) sc_law.nd)
 (ss_cons (s_set (i := 4) (ea_callTy c_list (He.free_ok hX hG (c.ck 4 rfl)) (ar_cons (ea_v 3) ar_nil)) sc_law.nd)
 (ss_cons (s_set (i := 5) (ea_make (g_Rows hX hG c) (hr.mono (by decide)) takesT (ar_cons (ea_v 4) ar_nil)) sc_law.nd)
 (ss_cons (s_set (i := 6) (ea_make (g_Rows hX hG c) (hr.mono (by decide)) takesT (ar_cons (ea_revL (ea_v 3)) ar_nil)) sc_law.nd)
 (ss_cons (s_if (WstA.t (wa_or (ta_cmp (o_ne ⟨_, hr⟩) (ea_v 4) (ea_v 3)) (wa_or (ta_not (ta_val (ea_callB (c_isi (ok := okT K) (fun C hC => (by have e : C = He.ga K "Rows" := hC; subst e; exact isi_ok (c.ck 1 rfl)))) (He.free_ok hX hG (c.ck 2 rfl)) (ar_cons (ea_v 5) (ar_cons (ea_gref (He.glo_ok hX hG (c.ck 20 rfl))) ar_nil))))) (wa_or1 (ta_val (ea_callB (c_isi (ok := okT K) (fun C hC => (by have e : C = He.ga K "Rows" := hC; subst e; exact isi_ok (c.ck 1 rfl)))) (He.free_ok hX hG (c.ck 2 rfl)) (ar_cons (ea_v 4) (ar_cons (ea_gref (He.glo_ok hX hG (c.ck 20 rfl))) ar_nil)))))))) (ss_one (s_ret ea_bl)) ss_nil)
 (ss_cons (s_expr (ea_bm0 m_clear PySem.F.slot_list_clear PySem.F.type_list_clear (ea_v 4)))
 (ss_cons (s_set (i := 7) (ea_lst (ar_cons (ea_lst ar_nil) (ar_cons (ea_listRg1 rfl (He.free_ok hX hG (c.ck 4 rfl)) (He.free_ok hX hG (c.ck 8 rfl)) (ea_callB c_len (He.free_ok hX hG (c.ck 6 rfl)) (ar_cons (ea_v 3) ar_nil))) ar_nil))) sc_law.nd)
 (ss_cons (s_set (i := 7) (ea_op o_add (ea_v 7) (ea_lc rfl sc_law.nd (i_range1 (He.free_ok hX hG (c.ck 8 rfl)) (ar_cons (ea_call (g_take hX hG c) (hr.mono (by decide)) takesT (ar_cons (ea_v 2) (ar_cons ea_int ar_nil))) ar_nil)) (own := [("_law_turn", 8)]) (blkOk_by (N := ["_law_script", "_law_k", "_law_pot_here", "_law_rows_here", "_law_handed", "_law_yard", "_law_other", "_law_heaps", "_law_turn", "_law_heap_here"]) (sc := defScope (top 27)) (by decide +kernel)) (wgt_name (by decide)) (fun s H C cl fp => (g_name (i := 8) sc_law.nd)) (fun s H C cl fp => ⟨_, ts_nil⟩) (fun s H C cl fp => ⟨_, (ea_call (g_heap hX hG c) (hr.mono (by decide)) tk0 (ar_cons (ea_v 2) (ar_cons (ea_callB c_len (He.free_ok hX hG (c.ck 6 rfl)) (ar_cons (ea_v 3) ar_nil)) ar_nil)))⟩) (s, H, 0, [], []))) sc_law.nd)
 (ss_cons (s_for passT rfl (i_seq (ea_v 7)) (g_name (i := 9) sc_law.nd) (ss_one (s_if (ta_not (ta_val (ea_call (g_worth_right hX hG c) (hr.mono (by decide)) takesT (ar_cons (ea_v 5) (ar_cons (ea_v 6) (ar_cons (ea_v 3) (ar_cons (ea_v 9) ar_nil))))))) (ss_one (s_ret ea_bl)) ss_nil)))
 (ss_one (s_if (WstA.t (wa_or (ta_not (ta_val (ea_call (g_told hX hG c) (hr.mono (by decide)) takesT (ar_cons (ea_v 5) (ar_cons (ea_v 3) ar_nil))))) (wa_or1 (ta_not (ta_val (ea_call (g_told hX hG c) (hr.mono (by decide)) takesT (ar_cons (ea_v 6) (ar_cons (ea_revL (ea_v 3)) ar_nil)))))))) (ss_one (s_ret ea_bl)) ss_nil)))))))))))))
 (ss_one (s_ret ea_bl)))⟩) (law_law K)
theorem g_law : GF P w K mg base "law" 6 ["_law_script"] (sp_law K) := by
  obtain ⟨fd, F⟩ := c.df 32 (d := d32) rfl
  exact ⟨_, fd, He.glo_ok hX hG (c.ck 48 rfl), F.kp, (F.bindsN fun _ _ _ _ _ _ us hl => match us, hl with | [_], _ => rfl), fn_law hX hG c F⟩
end

abbrev R : PySem.W.OpenRow := PySem.W.OpenLaw.row PySem.Challenge.rw_noaslong_k13_rows_by_sums
abbrev hk : PySem.W.Hook := hookX 6 fc fn
def ob (s : PySem.W.SharedT) : He.AlD := obXG 6 fc fn (HandSHeadRun.getT s)
theorem ob_ok (s : PySem.W.SharedT) : ob s = hk.obs s.abs := obXG_eq (HandSHeadRun.getT_eq s)
theorem run_ (w : World) : HandSHeadRun.RunEq R (PySem.W.view R.prog [27]) hk ob 40000 names w := by
  intro os
  kernel_rfl
theorem facts {P : Program} {w : World} {K : PySem.W.Frag} {h : Heap} {mg : Str → Option Value} {f : Addr} (hX : K.In h) (hG : h.Ns mainGlobals mg) (hfa : mg ("law" : Str) = some (.ref f)) (c : SaysX fc fn K) :
    ∃ fd : FuncData, (∀ (s : Shared) (v : Value), BindsTo s fd ⟨[v], []⟩ [("_law_script", v)]) ∧ (∀ ns : List Int, ns.length ≤ 63 → Bits ns → sp_law K [.scr ns] noS (fun d _ => d = .bl true) noX) ∧
      ∀ base : Heap, K.In base → base.Ns mainGlobals mg → FnA P w K mg base 6 f fd ["_law_script"] (sp_law K) := by
  obtain ⟨fd, F⟩ := c.df 32 (d := d32) rfl
  have e := hfa.symm.trans (He.glo_ok hX hG (c.ck 48 rfl))
  cases e
  have b := FunD.bindsA (ps := ["_law_script"]) F fun _ _ _ _ _ _ us hl => match us, hl with | [_], _ => rfl
  refine ⟨fd, fun s v => b s [v] rfl, fun ns h1 h2 => ⟨ns, rfl, h1, h2, of_decide_eq_true (c.ck 21 rfl), of_decide_eq_true (c.ck 22 rfl), rfl⟩, fun base _ _ => fn_law hX hG c F⟩
end A
open PySem PySem.W PySem.Calls PyProof.Rows
theorem PySem.Challenge.cw_noaslong_k13_rows_by_sums_holds : PySem.Challenge.rw_noaslong_k13_rows_by_sums.Holds := by
  w_on; o_law
  refine HandSHeadRun.head_any (r := A.R) (q := view A.R.prog [27]) (H := A.hk) (ob := A.ob) (M := 40000) (loose := A.names) (d := HandSHeadRun.topDef A.R.prog 27) (kwd := []) A.ob_ok
    (by kernel_rfl) (fun s => by kernel_rfl) A.run_ (by kernel_rfl) (by kernel_rfl) (by kernel_rfl) (by rfl) (by first | assumption | decide +kernel) (by decide +kernel) ⟨rfl, rfl, rfl, rfl, rfl, by decide +kernel⟩ ?hw ?hc
  case hw => w_witness2
  case hc =>
    refine A.walk_G (l := PySem.Challenge.rw_noaslong_k13_rows_by_sums) (n := 63) (k := 6) (x := "_law_script") rfl (by decide) (by kernel_rfl) ⟨rfl, by decide, by decide⟩ ?F
    intro w mg g h Y G hmg0
    obtain ⟨K, KX, c⟩ := Y
    have hmg : mg ("law" : PySem.Str) = some (.ref g) := by
      have e : (HandSHeadRun.topDef A.R.prog 27).name = ("law" : PySem.Str) := by kernel_rfl
      rw [← e]
      exact hmg0
    obtain ⟨fd, hb, hs, hF⟩ := A.facts (P := A.R.prog) (w := w) KX G hmg c
    exact ⟨K, fd, A.sp_law K, KX, hb, hs, hF⟩

