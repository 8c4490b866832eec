import PyProof.Rows.All
import Wide.All
import OpenK.AllK
import Wide.FinOn
import KE.KStateDown
import HandS.ForMost
import HandS.Exc
import HandS.ExcOwn
import HandS.ExcInit
import HandS.TryOnly
import HandS.WordsExc
import HandS.Defaults
import HandS.Walk
import HandS.Deep
import HandS.Wide
import HandS.WideBits
import HandS.Set
import HandS.Strs
import HandS.Conv
import HandS.Style
import HandS.IsInst
import PyProof.ReprLen
import HandS.SortInts
import HandS.ClsMeth
import HandS.Head0
import HandS.Head1
import HandS.Head2
import HandS.HeadEnd
import HandS.HeadHook1
import HandS.HeadHook2
import HandS.TupSets
import HandS.EndBits
import HandS.WordsDict
import HandS.Dict
import HandS.More
import HandS.RaiseMore
import HandS.SlotsOwn
import PyProof.InstNe
import HandS.FStr
import PyProof.ReprRoads
import HandS.TupAny
import HandS.SetFor
import HandS.Iter
import HandS.ListItems
import HandS.DictComp
import HandS.ExcField
import HandS.ExcIs
import HandS.TryMany
import KE.KExcInit
import KE.KExcIs
import PyProof.InstStoreFacts
import PyProof.ExcBaseAll.LookupError
import HandS.SortRule
import KE.GoesEnum
import HandS.RevRange
import HandS.Star
import KE.DatumOrd
import HandS.SortKw
import KE.SortData
import PyProof.Rows.SortWalk
import HandS.HotCalls
import PyProof.ReprDict
import HandS.ExcValue
import PySem.Challenge.RW_noaslong_k17_refusals_made
set_option Elab.async false
set_option linter.all false
set_option maxRecDepth 100000
set_option maxHeartbeats 0
/-! ## functions whose promise may lean on there being no guard around -/
namespace A
open PySem PySem.Spec L2 PyProof.Rows
abbrev St := L2.St

structure RoomG (k : Nat) (A : Around) : Prop where
  room : Room k A
  gd : A.guards = some []
theorem RoomG.mono {j k : Nat} {A : Around} (r : RoomG k A) (h : j ≤ k) : RoomG j A := ⟨r.room.mono h, r.gd⟩
theorem RoomG.deeper {k : Nat} {A : Around} (r : RoomG (k + 1) A) (env : Env) : RoomG k (A.deeper env) := ⟨r.room.deeper env, r.gd⟩
theorem RoomG.make {k : Nat} {A : Around} (r : RoomG (k + 1) A) (C : Addr) (us : List Value) (kw : List (Str × Value)) :
    RoomG k (A.under (.builtin "type.__call__" ⟨.ref C :: us, kw⟩)) := by
  refine ⟨r.room.make C us kw, ?_⟩
  have e := r.gd
  first
    | exact e
    | (simp [Around.under, Code.guards, Code.isGuard, guardIds, pushGuards, e])

abbrev XT (P : Program) (w : World) : CXT := L2.CX P w

structure FnG (P : Program) (w : World) (K : PySem.W.Frag) (mg : Str → Option Value) (base : Heap) (k : Nat) (f : Addr) (fd : FuncData) (ps : List Str) (sp : Sp) : Prop where
  len : ∀ vs H Q E, sp vs H Q E → vs.length = ps.length
  run : ∀ (A : Around) (outer : List Env) (s : Shared) (H : Hp) (args : Args) (us : List Value) (vs : List V) (Q : VK) (E : XK), RoomG k A → Env0 P w K mg base A outer s H →
    BindsTo s fd args (ps.zip us) → Vals vs us → sp vs H Q E → codeAny (model P w) A (.call (.ref f) args) (CR (XT P w) outer P w H s Q E) s
section
variable {P : Program} {w : World} {K : PySem.W.Frag} {mg : Str → Option Value} {base : Heap}
theorem FnG.mono {j k : Nat} {f : Addr} {fd : FuncData} {ps : List Str} {sp : Sp} (F : FnG P w K mg base j f fd ps sp) (h : j ≤ k) : FnG P w K mg base k f fd ps sp :=
  ⟨F.len, fun A o s H a us vs Q E hr => F.run A o s H a us vs Q E (hr.mono h)⟩
theorem FnG.imp {k : Nat} {f : Addr} {fd : FuncData} {ps : List Str} {sp sp' : Sp} (F : FnG P w K mg base k f fd ps sp) (h : ∀ vs H Q E, sp' vs H Q E → sp vs H Q E) : FnG P w K mg base k f fd ps sp' :=
  ⟨fun vs H Q E q => F.len vs H Q E (h vs H Q E q), fun A o s H a us vs Q E hr e b v q => F.run A o s H a us vs Q E hr e b v (h vs H Q E q)⟩

/-- a def by its body, as FunD tells it -/
theorem fnG_of {x qual : Str} {params : Arguments} {body : List Stmt} {scope : Scope} {dvs : List V} {kws : List (Str × V)} {f : Addr} {fd : FuncData} {N ps : List Str} {k : Nat} {sp : Sp}
    (F : FunD K x qual params body scope dvs kws f fd) (S : FnScope N ps scope) (len : ∀ vs H Q E, sp vs H Q E → vs.length = ps.length)
    (hb : ∀ (cdv : Value) (A : Around) (outer : List Env) (s : Shared) (H : Hp) (vs : List V) (Q : VK) (E : XK), RoomG k (A.deeper (envOfC qual scope s.heap.objs.size f cdv)) → sp vs H Q E →
      ∃ t, PSs (cxOf (XT P w) P w K mg base N qual scope f cdv A outer s H E) body t ∧ t { nx := fun _ H' => Q .non H', rt := Q } (start N vs) H) :
    FnG P w K mg base (k + 1) f fd ps sp := by
  obtain ⟨oc, od, dV, kV, doc, pm, an, cdv, ct, osl, efd, lk, hcd, _, _⟩ := F.ex
  subst efd
  refine ⟨len, fun A outer s H args us vs Q E hr e0 hbi r hsp => ?_⟩
  have keep : ∀ b o, base.get? b = some o → s.heap.get? b = some o := fun b o e => (e0.bs b o e).1
  have KX : K.In s.heap := e0.mod.kin.keeps keep
  have lim : s.heap.NoLimit := e0.mod.nolimit.keeps keep
  have kinds : ∀ y ∈ ps.zip us, scope.names.lookup y.1 = some .local ∨ (scope.names.lookup y.1 = some .cell ∧ ((cellsFrom (s.heap.objs.size + 1) scope.names []).lookup y.1).isSome = true) := by
    rintro ⟨n, v⟩ hy
    cases S.par n (List.of_mem_zip hy).1 with
    | inl q => exact Or.inl q
    | inr q => exact Or.inr ⟨q, PySem.W.cellsFrom_some _ _ _ (Or.inl q)⟩
  refine codeAny_call_function hr.room.depth (KX _ _ lk) rfl S.co S.gen rfl (PySem.W.codeRec_of KX hcd) (hbi _ _ _ _ ?_)
  refine wpAny_newFunctionEnv_cells S.kind kinds fun env he s1 xc => ?_
  subst he
  refine ⟨lim.keeps xc.toInCall.keep, codeAny_func ?_⟩
  obtain ⟨t, ht, hq⟩ := hb cdv A outer s H vs Q E (hr.deeper _) hsp
  have I := inv_start (CX := XT P w) (mg := mg) (base := base) (E := E) S hr.room.hd e0 (len _ _ _ _ hsp) r xc
  refine wpAny_mono (ht.run [] s1 (start N vs) H _ I hq) (fun fl s' hs => ?_) (fun e s' hs => hs)
  have fin : ∀ {σ' : St} {H' : Hp} {v : V} {u : Value}, Inv (cxOf (XT P w) P w K mg base N qual scope f cdv A outer s H E) [] σ' H' s' → RelV v u → Q v H' → CE outer P w H s Q u s' := by
    intro σ' H' v u J rv q
    exact ⟨v, H', J.os, J.bare, J.base, J.hok, rv, q⟩
  cases fl with
  | next =>
    obtain ⟨σ', H', J, q⟩ := hs
    exact fin (v := .non) (u := .none) J rfl q
  | ret u =>
    obtain ⟨v, σ', H', J, rv, q⟩ := hs
    exact fin J rv q
  | brk =>
    obtain ⟨_, _, _, q⟩ := hs
    exact q.elim
  | cont =>
    obtain ⟨_, _, _, q⟩ := hs
    exact q.elim
end

section
variable {X : Cx} {k : Nat} {f C : Addr} {fd : FuncData} {ps ks : List Str} {sp : Sp} {x m : Str} {p pos apos : Pos} {e o : Expr} {es : List Expr} {kws : List Keyword} {W : WX}
/-- what the callee tells lies as this body wants it -/
theorem went {pins : List (Addr × Obj)} {σ : St} {H : Hp} {s s' : Shared} {Q : VK} {r : Result} (tk : Takes X W) (I : Inv X pins σ H s) (h : CR (XT X.prog X.w) X.stack X.prog X.w H s Q (WE W σ) r s') :
    match r with | .ok (.ret v) => EP X pins σ Q v s' | .ok _ => False | .error e => X.xe e s' := by
  cases r with
  | error e => exact passAt tk σ pins H s e s' I h
  | ok fl =>
    cases fl with
    | ret u => exact I.after h
    | next => exact h
    | brk => exact h
    | cont => exact h
/-- the callee runs: any arguments args that bind to the values us in the parameters' order -/
theorem run_g {pins : List (Addr × Obj)} {σ : St} {H : Hp} {s : Shared} {Q : VK} {us : List Value} {vs : List V} {pa : List Value} {kw : List (Str × Value)} (F : FnG X.prog X.w X.K X.mg X.base k f fd ps sp) (hr : RoomG k X.A)
    (tk : Takes X W) (I : Inv X pins σ H s) (hb : BindsTo s fd ⟨pa, kw⟩ (ps.zip us)) (r : Vals vs us) (h : sp vs H Q (WE W σ)) :
    wpAny (model X.prog X.w) X.A (call (.ref f) pa kw) (EP X pins σ Q) X.xe s := by
  refine wpAny_call (codeAny_mono (F.run X.A X.stack s H ⟨pa, kw⟩ us vs Q (WE W σ) hr I.env0 hb r h) fun r s' hq => ?_)
  have := went tk I hq
  cases r with
  | error e => exact this
  | ok fl => cases fl <;> exact this
end
end A

/-! ## what is known of values and of the heap: data that nobody changes (D), and objects that are somebody's own (Cell) -/
namespace A
open PySem PySem.Spec L2 PyProof.Rows

structure KW where
  K : PySem.W.Frag
  w : World
abbrev _root_.L2.Cx.kw (X : Cx) : KW := ⟨X.K, X.w⟩

inductive D where
  | non | bl (b : Bool) | int (i : Int) | str (x : Str) | ty (n : String)
  | lst (l : List D) | tup (l : List D) | set (l : List Int) | own (a : Addr) | scr (l : List Int)
  | exc (a : Addr) (dd : Option Addr) (ns : List Str) (ds : List D)
  | xv (C a : Addr) (dd : Option Addr) (ns : List Str) (ds : List D)

inductive Cell where
  | lst (l : List D) | dct (l : List (Key × D)) | ins (C : Addr) (fs : List (Str × D)) | pot | dtt (l : List (List Key × D))

abbrev Sto := Addr → Option Cell
def put (S : Sto) (a : Addr) (c : Cell) : Sto := fun b => if b = a then some c else S b
theorem put_same {S : Sto} {a : Addr} {c : Cell} : put S a c a = some c := if_pos rfl
theorem put_ne {S : Sto} {a b : Addr} {c : Cell} (h : b ≠ a) : put S a c b = S b := if_neg h
theorem put_put {S : Sto} {a : Addr} {c c' : Cell} : put (put S a c) a c' = put S a c' := by
  funext b
  unfold put
  split <;> rfl
theorem put_id {S : Sto} {a : Addr} {c : Cell} (h : S a = some c) : put S a c = S := by
  funext b
  unfold put
  split
  · rename_i e; rw [e, h]
  · rfl
/-- no more than -/
def Sub (S T : Sto) : Prop := ∀ a c, S a = some c → T a = some c
theorem Sub.refl (S : Sto) : Sub S S := fun _ _ h => h
theorem Sub.trans {S T U : Sto} (h : Sub S T) (k : Sub T U) : Sub S U := fun a c e => k a c (h a c e)
theorem Sub.put {S T : Sto} {a : Addr} {c : Cell} (h : Sub S T) (n : S a = none) : Sub S (put T a c) := fun b x e => by
  rw [put_ne]
  · exact h b x e
  · rintro rfl
    rw [n] at e
    cases e

/-- an exception of the class C, made, its dict at d -/
def XvH (C a : Addr) (d : Option Addr) (φ : Heap → Prop) : Prop := ∀ h, φ h → ∃ (oe : Obj) (vs : Array Value), h.get? a = some oe ∧ Zc (.ref C) d oe ∧ oe.data = .fields vs
mutual
inductive Dv (K : KW) (F : Hp) : V → D → Prop
  | non : Dv K F .non .non
  | bl (b : Bool) : Dv K F (.bl b) (.bl b)
  | int (i : Int) : Dv K F (.int i) (.int i)
  | str (x : Str) : Dv K F (.str x) (.str x)
  | ty (n : String) : Dv K F (.ty n) (.ty n)
  | own (a : Addr) : Dv K F (.ref a) (.own a)
  | scr {a : Addr} {ns : List Int} : SqL K.K F a (ns.map V.int) → ns.length ≤ sizeLine → Dv K F (.ref a) (.scr ns)
  | lst {a : Addr} {xs : List V} {ds : List D} : F a = some (.lst xs) → ds.length ≤ sizeLine → DvL K F xs ds → Dv K F (.ref a) (.lst ds)
  | tup {a : Addr} {xs : List V} {ds : List D} : SqT K.K F a xs → ds.length ≤ sizeLine → DvL K F xs ds → Dv K F (.ref a) (.tup ds)
  | exc {a dx : Addr} {gs : List (Str × V)} {ns : List Str} {ds : List D} : F dx = some (.xd gs) → gs.map (·.1) = ns → DvL K F (gs.map (·.2)) ds → Dv K F (.ref a) (.exc a (some dx) ns ds)
  | exc0 {a : Addr} : Dv K F (.ref a) (.exc a none [] [])
  | xv {C a dx : Addr} {gs : List (Str × V)} {ns : List Str} {ds : List D} {φ : Heap → Prop} : F a = some (.ext φ) → XvH C a (some dx) φ → F dx = some (.xd gs) → gs.map (·.1) = ns → DvL K F (gs.map (·.2)) ds → Dv K F (.ref a) (.xv C a (some dx) ns ds)
  | xv0 {C a : Addr} {φ : Heap → Prop} : F a = some (.ext φ) → XvH C a none φ → Dv K F (.ref a) (.xv C a none [] [])
  | set {a : Addr} {l : List Int} : F a = some (SetO K.w a (fun i => decide (i ∈ l)) l.length) → l.Nodup → Dv K F (.ref a) (.set l)
inductive DvL (K : KW) (F : Hp) : List V → List D → Prop
  | nil : DvL K F [] []
  | cons {v : V} {vs : List V} {d : D} {ds : List D} : Dv K F v d → DvL K F vs ds → DvL K F (v :: vs) (d :: ds)
end
theorem SqT.same {K : PySem.W.Frag} {F F' : Hp} {a : Addr} {xs : List V} (e : Same F F') (h : SqT K F a xs) : SqT K F' a xs := by
  rcases h with (h | ⟨o, h⟩) | h
  · exact Or.inl (Or.inl (e _ _ h))
  · exact Or.inl (Or.inr ⟨o, e _ _ h⟩)
  · exact Or.inr h
section
variable {K : KW} {F F' : Hp}
mutual
theorem Dv.mono (e : Same F F') : ∀ {v : V} {d : D}, Dv K F v d → Dv K F' v d
  | _, _, .non => .non
  | _, _, .bl b => .bl b
  | _, _, .int i => .int i
  | _, _, .str x => .str x
  | _, _, .ty n => .ty n
  | _, _, .own a => .own a
  | _, _, .scr h z => .scr (e.seq h) z
  | _, _, .lst h z l => .lst (e _ _ h) z (DvL.mono e l)
  | _, _, .tup h z l => .tup (SqT.same e h) z (DvL.mono e l)
  | _, _, .set h n => .set (e _ _ h) n
  | _, _, .exc h q l => .exc (e _ _ h) q (DvL.mono e l)
  | _, _, .exc0 => .exc0
  | _, _, .xv p x h q l => .xv (e _ _ p) x (e _ _ h) q (DvL.mono e l)
  | _, _, .xv0 p x => .xv0 (e _ _ p) x
theorem DvL.mono (e : Same F F') : ∀ {vs : List V} {ds : List D}, DvL K F vs ds → DvL K F' vs ds
  | _, _, .nil => .nil
  | _, _, .cons h t => .cons (Dv.mono e h) (DvL.mono e t)
end
theorem DvL.len : ∀ {vs : List V} {ds : List D}, DvL K F vs ds → vs.length = ds.length
  | _, _, .nil => rfl
  | _, _, .cons _ t => congrArg Nat.succ (DvL.len t)
theorem DvL.get : ∀ {vs : List V} {ds : List D} {i : Nat} {v : V}, DvL K F vs ds → vs[i]? = some v → ∃ d, ds[i]? = some d ∧ Dv K F v d
  | _, _, _, _, .nil, e => by simp at e
  | _, _, 0, _, .cons h _, e => by simp at e; subst e; exact ⟨_, rfl, h⟩
  | _, _, i + 1, _, .cons _ t, e => by
    obtain ⟨d, e1, e2⟩ := DvL.get (i := i) t (by simpa using e)
    exact ⟨d, by simpa using e1, e2⟩
theorem DvL.getD : ∀ {vs : List V} {ds : List D} {i : Nat} {d : D}, DvL K F vs ds → ds[i]? = some d → ∃ v, vs[i]? = some v ∧ Dv K F v d
  | _, _, _, _, .nil, e => by simp at e
  | _, _, 0, _, .cons h _, e => by simp at e; subst e; exact ⟨_, rfl, h⟩
  | _, _, i + 1, _, .cons _ t, e => by
    obtain ⟨d, e1, e2⟩ := DvL.getD (i := i) t (by simpa using e)
    exact ⟨d, by simpa using e1, e2⟩
theorem DvL.append : ∀ {vs ws : List V} {ds es : List D}, DvL K F vs ds → DvL K F ws es → DvL K F (vs ++ ws) (ds ++ es)
  | _, _, _, _, .nil, k => k
  | _, _, _, _, .cons h t, k => .cons h (DvL.append t k)
theorem DvL.take : ∀ {vs : List V} {ds : List D} (n : Nat), DvL K F vs ds → DvL K F (vs.take n) (ds.take n)
  | _, _, 0, _ => .nil
  | _, _, _ + 1, .nil => .nil
  | _, _, n + 1, .cons h t => .cons h (DvL.take n t)
theorem DvL.drop : ∀ {vs : List V} {ds : List D} (n : Nat), DvL K F vs ds → DvL K F (vs.drop n) (ds.drop n)
  | _, _, 0, h => h
  | _, _, _ + 1, .nil => .nil
  | _, _, n + 1, .cons _ t => DvL.drop n t
theorem DvL.set : ∀ {vs : List V} {ds : List D} {v : V} {d : D} (i : Nat), DvL K F vs ds → Dv K F v d → DvL K F (vs.set i v) (ds.set i d)
  | _, _, _, _, _, .nil, _ => .nil
  | _, _, _, _, 0, .cons _ t, k => .cons k t
  | _, _, _, _, i + 1, .cons h t, k => .cons h (DvL.set i t k)
theorem DvL.eraseIdx : ∀ {vs : List V} {ds : List D} (i : Nat), DvL K F vs ds → DvL K F (vs.eraseIdx i) (ds.eraseIdx i)
  | _, _, _, .nil => .nil
  | _, _, 0, .cons _ t => t
  | _, _, i + 1, .cons h t => .cons h (DvL.eraseIdx i t)
theorem DvL.reverse : ∀ {vs : List V} {ds : List D}, DvL K F vs ds → DvL K F vs.reverse ds.reverse
  | _, _, .nil => .nil
  | _, _, .cons h t => by
    rw [List.reverse_cons, List.reverse_cons]
    exact (DvL.reverse t).append (.cons h .nil)
theorem DvL.ints : ∀ (ns : List Int), DvL K F (ns.map V.int) (ns.map D.int)
  | [] => .nil
  | n :: r => .cons (.int n) (DvL.ints r)
end

/-- fields, a dict's pairs -/
def DvP {κ : Type} (K : KW) (F : Hp) : List (κ × V) → List (κ × D) → Prop := Paired fun p q => p.1 = q.1 ∧ Dv K F p.2 q.2
theorem DvP.mono {κ : Type} {K : KW} {F F' : Hp} (e : Same F F') : ∀ {l : List (κ × V)} {m : List (κ × D)}, DvP K F l m → DvP K F' l m
  | _, _, .nil => .nil
  | _, _, .cons h t => .cons ⟨h.1, h.2.mono e⟩ (DvP.mono e t)
theorem DvP.lookup {κ : Type} [BEq κ] {K : KW} {F : Hp} {k : κ} : ∀ {l : List (κ × V)} {m : List (κ × D)}, DvP K F l m →
    (m.lookup k = none ∧ l.lookup k = none) ∨ ∃ d v, m.lookup k = some d ∧ l.lookup k = some v ∧ Dv K F v d
  | _, _, .nil => .inl ⟨rfl, rfl⟩
  | (k1, v) :: _, (k2, d) :: _, .cons h t => by
    have e : k1 = k2 := h.1
    subst e
    simp only [List.lookup_cons]
    cases k == k1 with
    | true => exact .inr ⟨d, v, rfl, rfl, h.2⟩
    | false => exact DvP.lookup t

/-- a pot of draws: what it holds plays no part -/
def PotOk (x y : Int) : Prop := 0 ≤ x ∧ x.natAbs.log2 < 2 ^ 20 + 64 ∧ 0 ≤ y ∧ y < 2147483648

def CellOk (K : KW) (F H : Hp) (a : Addr) : Cell → Prop
  | .lst ds => ds.length ≤ sizeLine ∧ ∃ xs, H a = some (.lst xs) ∧ DvL K F xs ds
  | .dct m => m.length ≤ sizeLine ∧ ∃ l, H a = some (.dK l) ∧ DvP K F l m
  | .ins C fs => ∃ dx gs, H a = some (.ins C dx gs) ∧ DvP K F gs fs
  | .pot => ∃ x y, H a = some (.lst [.int x, .int y]) ∧ PotOk x y
  | .dtt m => m.length ≤ sizeLine ∧ ∃ l, H a = some (.dT l) ∧ DvP K F l m
theorem CellOk.mono {K : KW} {F F' H H' : Hp} {a : Addr} {c : Cell} (h : CellOk K F H a c) (e : Same F F') (k : ∀ o, H a = some o → H' a = some o) : CellOk K F' H' a c := by
  cases c with
  | lst ds => obtain ⟨z, xs, h1, h2⟩ := h; exact ⟨z, xs, k _ h1, h2.mono e⟩
  | dct m => obtain ⟨z, l, h1, h2⟩ := h; exact ⟨z, l, k _ h1, h2.mono e⟩
  | ins C fs => obtain ⟨dx, gs, h1, h2⟩ := h; exact ⟨dx, gs, k _ h1, h2.mono e⟩
  | pot => obtain ⟨x, y, h1, h2⟩ := h; exact ⟨x, y, k _ h1, h2⟩
  | dtt m => obtain ⟨z, l, h1, h2⟩ := h; exact ⟨z, l, k _ h1, h2.mono e⟩
theorem CellOk.there {K : KW} {F H : Hp} {a : Addr} {c : Cell} (h : CellOk K F H a c) : ∃ o, H a = some o := by
  cases c with
  | lst ds => obtain ⟨_, xs, h1, _⟩ := h; exact ⟨_, h1⟩
  | dct m => obtain ⟨_, l, h1, _⟩ := h; exact ⟨_, h1⟩
  | ins C fs => obtain ⟨dx, gs, h1, _⟩ := h; exact ⟨_, h1⟩
  | pot => obtain ⟨x, y, h1, _⟩ := h; exact ⟨_, h1⟩
  | dtt m => obtain ⟨_, l, h1, _⟩ := h; exact ⟨_, h1⟩

/-- F: data; S: one's own objects; R: others' own objects, that no one touches -/
structure Sta (K : KW) (F : Hp) (S R : Sto) (H : Hp) : Prop where
  le : Same F H
  own : ∀ a c, S a = some c → F a = none ∧ CellOk K F H a c
  hid : ∀ a c, R a = some c → F a = none ∧ S a = none ∧ CellOk K F H a c
section
variable {K : KW} {F F' H H' : Hp} {S R : Sto} {p a : Addr} {o : HO} {c c' : Cell}
theorem same_upd (h : F p = none) : Same F (upd F p o) := fun b u e => by
  rw [upd_ne (ne_of_none e h)]
  exact e
theorem Sta.free (T : Sta K F S R H) (h : H p = none) : F p = none ∧ S p = none ∧ R p = none := by
  refine ⟨T.le.free h, ?_, ?_⟩
  · cases e : S p with
    | none => rfl
    | some c =>
      obtain ⟨u, hu⟩ := (T.own p c e).2.there
      rw [h] at hu
      cases hu
  · cases e : R p with
    | none => rfl
    | some c =>
      obtain ⟨u, hu⟩ := (T.hid p c e).2.2.there
      rw [h] at hu
      cases hu
/-- a new object that is data -/
theorem Sta.frozen (T : Sta K F S R H) (h : H p = none) : Sta K (upd F p o) S R (upd H p o) := by
  obtain ⟨fF, fS, fR⟩ := T.free h
  have kF : Same F (upd F p o) := same_upd fF
  have kH : Same H (upd H p o) := same_upd h
  refine ⟨fun b u e => ?_, fun b x e => ?_, fun b x e => ?_⟩
  · by_cases q : b = p
    · subst q; rw [upd_same] at e ⊢; exact e
    · rw [upd_ne q] at e ⊢; exact T.le b u e
  · have q : b ≠ p := by rintro rfl; rw [fS] at e; cases e
    obtain ⟨h1, h2⟩ := T.own b x e
    exact ⟨by rw [upd_ne q]; exact h1, h2.mono kF fun u z => kH b u z⟩
  · have q : b ≠ p := by rintro rfl; rw [fR] at e; cases e
    obtain ⟨h1, h3, h2⟩ := T.hid b x e
    exact ⟨by rw [upd_ne q]; exact h1, h3, h2.mono kF fun u z => kH b u z⟩
/-- a new object of one's own -/
theorem Sta.owned (T : Sta K F S R H) (h : H p = none) (hc : CellOk K F (upd H p o) p c) : Sta K F (put S p c) R (upd H p o) := by
  obtain ⟨fF, fS, fR⟩ := T.free h
  have kH : Same H (upd H p o) := same_upd h
  refine ⟨T.le.trans kH, fun b x e => ?_, fun b x e => ?_⟩
  · by_cases q : b = p
    · subst q; rw [put_same] at e; cases e; exact ⟨fF, hc⟩
    · rw [put_ne q] at e
      obtain ⟨h1, h2⟩ := T.own b x e
      exact ⟨h1, h2.mono (Same.refl _) fun u z => kH b u z⟩
  · have q : b ≠ p := by rintro rfl; rw [fR] at e; cases e
    obtain ⟨h1, h3, h2⟩ := T.hid b x e
    exact ⟨h1, by rw [put_ne q]; exact h3, h2.mono (Same.refl _) fun u z => kH b u z⟩
/-- one's own object is changed -/
theorem Sta.write (T : Sta K F S R H) (h : S a = some c) (hc : CellOk K F (upd H a o) a c') : Sta K F (put S a c') R (upd H a o) := by
  have fF := (T.own a c h).1
  refine ⟨fun b u e => ?_, fun b x e => ?_, fun b x e => ?_⟩
  · rw [upd_ne (ne_of_none e fF)]; exact T.le b u e
  · by_cases q : b = a
    · subst q; rw [put_same] at e; cases e; exact ⟨fF, hc⟩
    · rw [put_ne q] at e
      obtain ⟨h1, h2⟩ := T.own b x e
      exact ⟨h1, h2.mono (Same.refl _) fun u z => by rw [upd_ne q]; exact z⟩
  · have q : b ≠ a := by rintro rfl; rw [(T.hid b x e).2.1] at h; cases h
    obtain ⟨h1, h3, h2⟩ := T.hid b x e
    exact ⟨h1, by rw [put_ne q]; exact h3, h2.mono (Same.refl _) fun u z => by rw [upd_ne q]; exact z⟩
/-- what plays no part any more is forgotten -/
theorem Sta.drop {S' : Sto} (T : Sta K F S R H) (h : Sub S' S) : Sta K F S' R H :=
  ⟨T.le, fun b x e => T.own b x (h b x e), fun b x e => by
    obtain ⟨h1, h3, h2⟩ := T.hid b x e
    refine ⟨h1, ?_, h2⟩
    cases q : S' b with
    | none => rfl
    | some y => rw [h b y q] at h3; cases h3⟩
/-- a new object that is hidden -/
theorem Sta.hide (T : Sta K F S R H) (h : H p = none) (hc : CellOk K F (upd H p o) p c) : Sta K F S (put R p c) (upd H p o) := by
  obtain ⟨fF, fS, fR⟩ := T.free h
  have kH : Same H (upd H p o) := same_upd h
  refine ⟨T.le.trans kH, fun b x e => ?_, fun b x e => ?_⟩
  · obtain ⟨h1, h2⟩ := T.own b x e
    exact ⟨h1, h2.mono (Same.refl _) fun u z => kH b u z⟩
  · by_cases q : b = p
    · subst q; rw [put_same] at e; cases e; exact ⟨fF, fS, hc⟩
    · rw [put_ne q] at e
      obtain ⟨h1, h3, h2⟩ := T.hid b x e
      exact ⟨h1, h3, h2.mono (Same.refl _) fun u z => kH b u z⟩
/-- a hidden object is changed -/
theorem Sta.hwrite (T : Sta K F S (put R p c) H) (hc : CellOk K F (upd H p o) p c') : Sta K F S (put R p c') (upd H p o) := by
  obtain ⟨fF, fS, _⟩ := T.hid p c put_same
  refine ⟨fun b u e => ?_, fun b x e => ?_, fun b x e => ?_⟩
  · rw [upd_ne (ne_of_none e fF)]; exact T.le b u e
  · have q : b ≠ p := by rintro rfl; rw [fS] at e; cases e
    obtain ⟨h1, h2⟩ := T.own b x e
    exact ⟨h1, h2.mono (Same.refl _) fun u z => by rw [upd_ne q]; exact z⟩
  · by_cases q : b = p
    · subst q; rw [put_same] at e; cases e; exact ⟨fF, fS, hc⟩
    · rw [put_ne q] at e
      obtain ⟨h1, h3, h2⟩ := T.hid b x (by rw [put_ne q]; exact e)
      exact ⟨h1, h3, h2.mono (Same.refl _) fun u z => by rw [upd_ne q]; exact z⟩
/-- a hidden list becomes one's own -/
theorem Sta.show (T : Sta K F S (put R p c) H) (hR : R p = none) : Sta K F (put S p c) R H := by
  obtain ⟨fF, fS, h0⟩ := T.hid p c put_same
  refine ⟨T.le, fun b x e => ?_, fun b x e => ?_⟩
  · by_cases q : b = p
    · subst q; rw [put_same] at e; cases e; exact ⟨fF, h0⟩
    · rw [put_ne q] at e; exact T.own b x e
  · have q : b ≠ p := by rintro rfl; rw [hR] at e; cases e
    obtain ⟨h1, h3, h2⟩ := T.hid b x (by rw [put_ne q]; exact e)
    exact ⟨h1, by rw [put_ne q]; exact h3, h2⟩
/-- an object of one's own, or a hidden one, becomes data -/
theorem Sta.freeze (T : Sta K F S R H) (h : H p = some o) (hS : S p = none) (hR : R p = none) (hF : F p = none) : Sta K (upd F p o) S R H := by
  have kF : Same F (upd F p o) := same_upd hF
  refine ⟨fun b u e => ?_, fun b x e => ?_, fun b x e => ?_⟩
  · by_cases q : b = p
    · subst q; rw [upd_same] at e; rw [h]; exact e
    · rw [upd_ne q] at e; exact T.le b u e
  · have q : b ≠ p := by rintro rfl; rw [hS] at e; cases e
    obtain ⟨h1, h2⟩ := T.own b x e
    exact ⟨by rw [upd_ne q]; exact h1, h2.mono kF fun u z => z⟩
  · have q : b ≠ p := by rintro rfl; rw [hR] at e; cases e
    obtain ⟨h1, h3, h2⟩ := T.hid b x e
    exact ⟨by rw [upd_ne q]; exact h1, h3, h2.mono kF fun u z => z⟩
theorem Sta.unhide (T : Sta K F S (put R p c) H) (hR : R p = none) : Sta K F S R H :=
  ⟨T.le, T.own, fun b x e => T.hid b x (by rw [put_ne]; exact e; rintro rfl; rw [hR] at e; cases e)⟩
end
end A

/-! ## judgements: a piece of syntax, its reading over the heap, its reading over data -/
namespace A
open PySem PySem.Spec L2 PyProof.Rows

abbrev En := List (Option D)
abbrev KD := D → Sto → Prop
structure Xn where
  cls : Addr
  fs : List (Str × D)
abbrev KX := Xn → Sto → Prop
def noX : KX := fun _ _ => False

structure EnR (K : KW) (F : Hp) (σ : St) (ρ : En) : Prop where
  len : σ.length = ρ.length
  at_ : ∀ (i : Nat) (d : D), ρ[i]? = some (some d) → ∃ v, σ[i]? = some (some v) ∧ Dv K F v d
def XR (K : KW) (F H : Hp) (cls : Value) (dd : Option Addr) (x : Xn) : Prop :=
  cls = .ref x.cls ∧ ((dd = none ∧ x.fs = []) ∨ ∃ dx gs, dd = some dx ∧ H dx = some (.xd gs) ∧ DvP K F gs x.fs)

section
variable (K : KW) (F : Hp) (R : Sto)
def Post (Q : KD) (P : VK) : Prop := ∀ v H' F' S' d, Same F F' → Sta K F' S' R H' → Dv K F' v d → Q d S' → P v H'
def PostL (Q : List D → Sto → Prop) (P : List V → Hp → Prop) : Prop := ∀ vs H' F' S' ds, Same F F' → Sta K F' S' R H' → DvL K F' vs ds → Q ds S' → P vs H'
def PostB (Q : Bool → Sto → Prop) (P : Bool → Hp → Prop) : Prop := ∀ b H' F' S', Same F F' → Sta K F' S' R H' → Q b S' → P b H'
def WOk (σ : St) (W : WX) (E : KX) : Prop := ∀ cls dd H' F' S' x, Same F F' → Sta K F' S' R H' → XR K F' H' cls dd x → E x S' → W cls dd σ H'
end
section
variable {K : KW} {F F' : Hp} {R : Sto} {σ : St} {ρ : En} {W : WX} {E : KX}
theorem EnR.mono (h : EnR K F σ ρ) (e : Same F F') : EnR K F' σ ρ := ⟨h.len, fun i d q => let ⟨v, h1, h2⟩ := h.at_ i d q; ⟨v, h1, h2.mono e⟩⟩
theorem Post.mono {Q : KD} {P : VK} (h : Post K F R Q P) (e : Same F F') : Post K F' R Q P := fun v H' F2 S' d k => h v H' F2 S' d (e.trans k)
theorem PostL.mono {Q : List D → Sto → Prop} {P : List V → Hp → Prop} (h : PostL K F R Q P) (e : Same F F') : PostL K F' R Q P := fun v H' F2 S' d k => h v H' F2 S' d (e.trans k)
theorem PostB.mono {Q : Bool → Sto → Prop} {P : Bool → Hp → Prop} (h : PostB K F R Q P) (e : Same F F') : PostB K F' R Q P := fun v H' F2 S' k => h v H' F2 S' (e.trans k)
theorem WOk.mono (h : WOk K F R σ W E) (e : Same F F') : WOk K F' R σ W E := fun c dd H' F2 S' x k => h c dd H' F2 S' x (e.trans k)
theorem EnR.set (h : EnR K F σ ρ) {i : Nat} {v : V} {d : D} (q : Dv K F v d) : EnR K F (σ.set i (some v)) (ρ.set i (some d)) := by
  refine ⟨by rw [List.length_set, List.length_set]; exact h.len, fun j e hj => ?_⟩
  by_cases hi : i = j
  · subst hi
    by_cases hl : i < ρ.length
    · rw [List.getElem?_set_self hl] at hj
      cases hj
      exact ⟨v, List.getElem?_set_self (by rw [h.len]; exact hl), q⟩
    · rw [List.getElem?_eq_none (by rw [List.length_set]; omega)] at hj
      cases hj
  · rw [List.getElem?_set_ne hi] at hj
    obtain ⟨u, h1, h2⟩ := h.at_ j e hj
    exact ⟨u, by rw [List.getElem?_set_ne hi]; exact h1, h2⟩
theorem EnR.unset (h : EnR K F σ ρ) {i : Nat} : EnR K F (σ.set i none) (ρ.set i none) := by
  refine ⟨by rw [List.length_set, List.length_set]; exact h.len, fun j e hj => ?_⟩
  by_cases hi : i = j
  · subst hi
    by_cases hl : i < ρ.length
    · rw [List.getElem?_set_self hl] at hj
      cases hj
    · rw [List.getElem?_eq_none (by rw [List.length_set]; omega)] at hj
      cases hj
  · rw [List.getElem?_set_ne hi] at hj
    obtain ⟨u, h1, h2⟩ := h.at_ j e hj
    exact ⟨u, by rw [List.getElem?_set_ne hi]; exact h1, h2⟩
end

abbrev AE := En → Sto → KD → KX → Prop
abbrev AT := En → Sto → (Bool → Sto → Prop) → KX → Prop
abbrev AA := En → Sto → (List D → Sto → Prop) → KX → Prop
def RE (K : KW) (W : WX) (t : TE) (a : AE) : Prop :=
  ∀ σ H F S R ρ Q E P, Sta K F S R H → EnR K F σ ρ → WOk K F R σ W E → a ρ S Q E → Post K F R Q P → t σ H P
def RT (K : KW) (W : WX) (t : TT) (a : AT) : Prop :=
  ∀ σ H F S R ρ Q E P, Sta K F S R H → EnR K F σ ρ → WOk K F R σ W E → a ρ S Q E → PostB K F R Q P → t σ H P
def RA (K : KW) (W : WX) (t : TA) (a : AA) : Prop :=
  ∀ σ H F S R ρ Q E P, Sta K F S R H → EnR K F σ ρ → WOk K F R σ W E → a ρ S Q E → PostL K F R Q P → t σ H P

structure EA (X : Cx) (W : WX) (e : Expr) (t : TE) (a : AE) : Prop where
  pe : PE X e t
  re : RE X.kw W t a
structure TstA (X : Cx) (W : WX) (e : Expr) (t : TT) (a : AT) : Prop where
  pt : PT X e t
  rt : RT X.kw W t a
structure ArA (X : Cx) (W : WX) (es : List Expr) (t : TA) (a : AA) : Prop where
  pa : PA X es t
  ra : RA X.kw W t a

/-! ### by values -/
abbrev O2 := D → D → Sto → KD → Prop
abbrev O1 := D → Sto → KD → Prop
abbrev ON := List D → Sto → KD → Prop
def R2k (K : KW) (r : R2) (a : O2) : Prop := ∀ x y d e H F S R Q P, Sta K F S R H → Dv K F x d → Dv K F y e → a d e S Q → Post K F R Q P → r x y H P
def R1k (K : KW) (r : V → Hp → VK → Prop) (a : O1) : Prop := ∀ x d H F S R Q P, Sta K F S R H → Dv K F x d → a d S Q → Post K F R Q P → r x H P
def RNk (K : KW) (r : List V → Hp → VK → Prop) (a : ON) : Prop := ∀ xs ds H F S R Q P, Sta K F S R H → DvL K F xs ds → a ds S Q → Post K F R Q P → r xs H P
def aOp (a2 : O2) (a b : AE) : AE := fun ρ S Q E => a ρ S (fun d S1 => b ρ S1 (fun e S2 => a2 d e S2 Q) E) E
def aUn (a1 : O1) (a : AE) : AE := fun ρ S Q E => a ρ S (fun d S1 => a1 d S1 Q) E
section
variable {X : Cx} {W : WX} {a b e : Expr} {ta tb : TE} {aa ab : AE} {pos : Pos}
theorem re_op {r : R2} {a2 : O2} (hr : R2k X.kw r a2) (ha : RE X.kw W ta aa) (hb : RE X.kw W tb ab) : RE X.kw W (tOp r ta tb) (aOp a2 aa ab) :=
  fun σ H F S R ρ Q E P T en wo h po => ha σ H F S R ρ _ E _ T en wo h fun v H1 F1 S1 d e1 T1 dv q =>
    hb σ H1 F1 S1 R ρ _ E _ T1 (en.mono e1) (wo.mono e1) q fun u H2 F2 S2 d2 e2 T2 dv2 q2 => hr v u d d2 H2 F2 S2 R Q P T2 (dv.mono e2) dv2 q2 (po.mono (e1.trans e2))
/-- an operator: its rule, and what it is of data -/
structure OpA (X : Cx) (f : Value → Value → Sem Value) (r : R2) (a : O2) : Prop where
  op : OpR X f r
  k : R2k X.kw r a
structure UnA (X : Cx) (f : Value → Sem Value) (r : V → Hp → VK → Prop) (a : O1) : Prop where
  op : UnR X f r
  k : R1k X.kw r a
structure CallA (X : Cx) (f : Value) (r : List V → Hp → VK → Prop) (a : ON) : Prop where
  op : CallR X f r
  k : RNk X.kw r a
theorem ea_op {op : Operator} {r : R2} {a2 : O2} (o : OpA X (binaryOp op) r a2) (ha : EA X W a ta aa) (hb : EA X W b tb ab) : EA X W (.BinOp a op b pos) (tOp r ta tb) (aOp a2 aa ab) :=
  ⟨pe_op o.op ha.pe hb.pe, re_op o.k ha.re hb.re⟩
theorem ea_cmp {op : CmpOp} {r : R2} {a2 : O2} (o : OpA X (compareOp op) r a2) (ha : EA X W a ta aa) (hb : EA X W b tb ab) (hm : behindInMarks op b = false := by first | rfl | exact nomark _) :
    EA X W (.Compare a [op] [b] pos) (tOp r ta tb) (aOp a2 aa ab) := ⟨pe_cmpR o.op ha.pe hb.pe hm, re_op o.k ha.re hb.re⟩

/-! ### names, constants -/
def atV : Option (Option D) → (D → Prop) → Prop
  | some (some d), Q => Q d
  | _, _ => False
theorem atV_ok {o : Option (Option D)} {Q : D → Prop} (h : atV o Q) : ∃ d, o = some (some d) ∧ Q d := by
  cases o with
  | none => exact (show False from h).elim
  | some o => cases o with
    | none => exact (show False from h).elim
    | some d => exact ⟨d, rfl, h⟩
def onB (f : Bool → Sto → Prop) : D → Sto → Prop
  | .bl b, S => f b S
  | _, _ => False
def onI (f : Int → Sto → Prop) : D → Sto → Prop
  | .int i, S => f i S
  | _, _ => False
def onII (f : Int → Int → Prop) : D → D → Prop
  | .int i, .int j => f i j
  | _, _ => False
def onL1 (f : Int → Prop) : List D → Prop
  | [.int i] => f i
  | _ => False
def onL2 (f : Int → Int → Prop) : List D → Prop
  | [.int i, .int j] => f i j
  | _ => False
def aVar (i : Nat) : AE := fun ρ S Q _ => atV ρ[i]? fun d => Q d S
def aC (d : D) : AE := fun _ S Q _ => Q d S
theorem ea_v (i : Nat) {x : Str} (hN : X.N[i]? = some x := by rfl) (hv : Vis X.env.scope x := by first | exact Or.inl rfl | exact Or.inr (Or.inl rfl) | exact Or.inr (Or.inr rfl))
    (hd : (x == ("__debug__" : Str)) = false := by decide) (hc : (x == ("__classdict__" : Str)) = false := by decide) : EA X W (.Name x pos) (tVar i) (aVar i) := by
  refine ⟨pe_var hN hv hd hc, fun σ H F S R ρ Q E P T en wo h po => ?_⟩
  obtain ⟨d, q, h'⟩ := atV_ok h
  obtain ⟨v, h1, h2⟩ := en.at_ i d q
  exact ⟨v, h1, po v H F S d (Same.refl _) T h2 h'⟩
theorem re_c {v : V} {d : D} (h : ∀ F, Dv X.kw F v d) : RE X.kw W (tC v) (aC d) := fun σ H F S R ρ Q E P T en wo q po => po v H F S d (Same.refl _) T (h F) q
theorem ea_int {i : Int} {j : Nat} : EA X W (.Constant (.int i) j pos) (tC (.int i)) (aC (.int i)) := ⟨pe_int, re_c fun _ => .int i⟩
theorem ea_bl {b : Bool} {j : Nat} : EA X W (.Constant (.bool b) j pos) (tC (.bl b)) (aC (.bl b)) := ⟨pe_bl, re_c fun _ => .bl b⟩
theorem ea_non {j : Nat} : EA X W (.Constant .none j pos) (tC .non) (aC .non) := ⟨pe_non, re_c fun _ => .non⟩
theorem ea_str {x : Str} {j : Nat} : EA X W (.Constant (.str x) j pos) (tC (.str x)) (aC (.str x)) := ⟨pe_str, re_c fun _ => .str x⟩
/-- a module's constant; a def or class as a value -/
theorem ea_glob {x : Str} {v : V} {u : Value} {d : D} (hm : X.mg x = some u) (r : RelV v u) (h : ∀ F, Dv X.kw F v d) (hg : Gl X x := by rfl) (hd : (x == ("__debug__" : Str)) = false := by decide) : EA X W (.Name x pos) (tC v) (aC d) :=
  ⟨pe_glob hg hm r hd, re_c h⟩
theorem ea_gref {x : Str} {f : Addr} (hm : X.mg x = some (.ref f)) (hg : Gl X x := by rfl) (hd : (x == ("__debug__" : Str)) = false := by decide) : EA X W (.Name x pos) (tC (.ref f)) (aC (.own f)) :=
  ea_glob hm rfl (fun _ => .own f) hg hd

/-! ### arguments, displays -/
def aNil : AA := fun _ S Q _ => Q [] S
def aCons (a : AE) (r : AA) : AA := fun ρ S Q E => a ρ S (fun d S1 => r ρ S1 (fun ds S2 => Q (d :: ds) S2) E) E
theorem ar_nil : ArA X W [] tNil aNil := ⟨pa_nil, fun σ H F S R ρ Q E P T en wo h po => po [] H F S [] (Same.refl _) T .nil h⟩
theorem ar_cons {es : List Expr} {te : TE} {t : TA} {ae : AE} {ar : AA} (ha : EA X W e te ae) (hr : ArA X W es t ar) (hs : starEach (e :: es) X.env = (false, eval e X.env) :: starEach es X.env := by rfl) :
    ArA X W (e :: es) (tCons te t) (aCons ae ar) :=
  ⟨pa_cons ha.pe hr.pa hs, fun σ H F S R ρ Q E P T en wo h po => ha.re σ H F S R ρ _ E _ T en wo h fun v H1 F1 S1 d e1 T1 dv q =>
    hr.ra σ H1 F1 S1 R ρ _ E _ T1 (en.mono e1) (wo.mono e1) q fun vs H2 F2 S2 ds e2 T2 dvs q2 => po (v :: vs) H2 F2 S2 (d :: ds) (e1.trans e2) T2 (.cons (dv.mono e2) dvs) q2⟩
/-- a new list: data at once, or one's own -/
def NewL (ds : List D) (S : Sto) (Q : KD) : Prop := Q (.lst ds) S ∨ ∀ a, S a = none → Q (.own a) (put S a (.lst ds))
theorem newL_ok {K : KW} {F H : Hp} {S R : Sto} {vs : List V} {ds : List D} {Q : KD} {P : VK} (T : Sta K F S R H) (h : DvL K F vs ds) (z : ds.length ≤ sizeLine) (q : NewL ds S Q) (po : Post K F R Q P) :
    ∀ p, H p = none → P (.ref p) (upd H p (.lst vs)) := fun p hp => by
  obtain ⟨fF, fS, fR⟩ := T.free hp
  rcases q with q | q
  · exact po _ _ _ S (.lst ds) (same_upd fF) (T.frozen hp) (.lst upd_same z (h.mono (same_upd fF))) q
  · exact po _ _ F _ (.own p) (Same.refl _) (T.owned (c := .lst ds) hp ⟨z, vs, upd_same, h⟩) (.own p) (q p fS)
theorem newT_ok {K : KW} {F H : Hp} {S R : Sto} {vs : List V} {ds : List D} {Q : KD} {P : VK} (T : Sta K F S R H) (h : DvL K F vs ds) (z : ds.length ≤ sizeLine) (q : Q (.tup ds) S) (po : Post K F R Q P) :
    ∀ p, H p = none → P (.ref p) (upd H p (.tup vs)) := fun p hp => by
  obtain ⟨fF, fS, fR⟩ := T.free hp
  exact po _ _ _ S (.tup ds) (same_upd fF) (T.frozen hp) (.tup (SqT.of upd_same) z (h.mono (same_upd fF))) q
def aTup (a : AA) : AE := fun ρ S Q E => a ρ S (fun ds S1 => ds.length ≤ sizeLine ∧ Q (.tup ds) S1) E
def aLst (a : AA) : AE := fun ρ S Q E => a ρ S (fun ds S1 => ds.length ≤ sizeLine ∧ NewL ds S1 Q) E
theorem ea_lst {es : List Expr} {t : TA} {ar : AA} (h : ArA X W es t ar) : EA X W (.List es pos) (tLst t) (aLst ar) :=
  ⟨pe_lst h.pa, fun σ H F S R ρ Q E P T en wo q po => h.ra σ H F S R ρ _ E _ T en wo q fun vs H1 F1 S1 ds e1 T1 dvs q1 =>
    ⟨by rw [dvs.len]; exact q1.1, newL_ok T1 dvs q1.1 q1.2 (po.mono e1)⟩⟩
/-- a built-in function or type, called -/
def aCB (r : ON) (a : AA) : AE := fun ρ S Q E => a ρ S (fun ds S1 => r ds S1 Q) E
theorem re_callB {r : List V → Hp → VK → Prop} {o : ON} {t : TA} {ar : AA} (hr : RNk X.kw r o) (h : RA X.kw W t ar) : RE X.kw W (tCB r t) (aCB o ar) :=
  fun σ H F S R ρ Q E P T en wo q po => h σ H F S R ρ _ E _ T en wo q fun vs H1 F1 S1 ds e1 T1 dvs q1 => hr vs ds H1 F1 S1 R Q P T1 dvs q1 (po.mono e1)
theorem ea_callB {id : String} {x : Str} {p : Pos} {es : List Expr} {r : List V → Hp → VK → Prop} {o : ON} {t : TA} {ar : AA} (c : CallA X (.builtin id) r o) (hm : X.mg x = none) (h : ArA X W (e :: es) t ar) (hv : bootBuiltins x = some (.builtin id) := by decide +kernel) (hg : Gl X x := by rfl)
    (hn : x ≠ "__name__" := by decide) (hdb : (x == ("__debug__" : Str)) = false := by decide)
    (he : starEach (e :: es) X.env = (false, eval e X.env) :: starEach es X.env := by rfl) (hpl : (backTo pos (starEach es X.env)).any (·.1) = false := by rfl) :
    EA X W (.Call (.Name x p) (e :: es) [] pos) (tCB r t) (aCB o ar) := ⟨pe_callB c.op hg hm hv h.pa hn hdb he hpl, re_callB c.k h.ra⟩
/-! ### tests -/
def aNot (a : AT) : AT := fun ρ S Q E => a ρ S (fun b S1 => Q (!b) S1) E
def aAnd (a b : AT) : AT := fun ρ S Q E => a ρ S (fun c S1 => if c = true then b ρ S1 Q E else Q false S1) E
def aOr (a b : AT) : AT := fun ρ S Q E => a ρ S (fun c S1 => if c = true then Q true S1 else b ρ S1 Q E) E
def aTst (a : AE) : AT := fun ρ S Q E => a ρ S (onB Q) E
theorem re_bl {P : Bool → Hp → Prop} {Q : Bool → Sto → Prop} {K : KW} {F : Hp} {R : Sto} (po : PostB K F R Q P) : Post K F R (onB Q) (fun x H' => ∃ k, x = .bl k ∧ P k H') := by
  intro v H' F' S' d e T dv q
  cases dv with
  | bl b => exact ⟨b, rfl, po b H' F' S' e T q⟩
  | _ => exact (show False from q).elim
theorem ta_cmp {op : CmpOp} {r : R2} {a2 : O2} (o : OpA X (compareOp op) r a2) (ha : EA X W a ta aa) (hb : EA X W b tb ab) (hm : behindInMarks op b = false := by first | rfl | exact nomark _) :
    TstA X W (.Compare a [op] [b] pos) (tTest (tOp r ta tb)) (aTst (aOp a2 aa ab)) :=
  ⟨pt_cmpR o.op ha.pe hb.pe hm, fun σ H F S R ρ Q E P T en wo q po => re_op o.k ha.re hb.re σ H F S R ρ _ E _ T en wo q (re_bl po)⟩
/-- an expression whose value is a truth -/
theorem ta_val {t : TE} (h : EA X W e t aa) (he : ∀ whole, isTrue e X.env whole = (do let v ← whole; standAt e.pos; holding [v] (truthy v)) := by intros; rfl) : TstA X W e (tB t) (aTst aa) :=
  ⟨pt_val h.pe he, fun σ H F S R ρ Q E P T en wo q po => h.re σ H F S R ρ _ E _ T en wo q (re_bl po)⟩
variable {t1 t2 : TT} {a1 a2 : AT}
theorem ta_not (h : TstA X W a t1 a1) : TstA X W (.UnaryOp .Not a pos) (tNot t1) (aNot a1) :=
  ⟨pt_not h.pt, fun σ H F S R ρ Q E P T en wo q po => h.rt σ H F S R ρ _ E _ T en wo q fun b H' F' S' e1 T1 q1 => po (!b) H' F' S' e1 T1 q1⟩
structure WstA (X : Cx) (W : WX) (e : Expr) (t : TT) (a : AT) : Prop where
  pw : PW X e t
  rt : RT X.kw W t a
theorem WstA.t {e : Expr} (h : WstA X W e t1 a1) : TstA X W e t1 a1 := ⟨h.pw.pt, h.rt⟩
theorem wa_or1 (h : TstA X W a t1 a1) : WstA X W (.BoolOp .Or [a] pos) t1 a1 := ⟨pw_or1 h.pt, h.rt⟩
theorem wa_or {rest : List Expr} (h : TstA X W a t1 a1) (k : WstA X W (.BoolOp .Or (b :: rest) pos) t2 a2) : WstA X W (.BoolOp .Or (a :: b :: rest) pos) (tOr t1 t2) (aOr a1 a2) := by
  refine ⟨pw_or h.pt k.pw, fun σ H F S R ρ Q E P T en wo q po => h.rt σ H F S R ρ _ E _ T en wo q fun c H1 F1 S1 e1 T1 q1 => ?_⟩
  cases c with
  | true => exact po true H1 F1 S1 e1 T1 q1
  | false => exact k.rt σ H1 F1 S1 R ρ Q E P T1 (en.mono e1) (wo.mono e1) q1 (po.mono e1)
/-- .. as values -/
def aIfE (c : AT) (a b : AE) : AE := fun ρ S Q E => c ρ S (fun k S1 => if k = true then a ρ S1 Q E else b ρ S1 Q E) E
def aAndV (a b : AE) : AE := fun ρ S Q E => a ρ S (onB fun c S1 => if c = true then b ρ S1 Q E else Q (.bl false) S1) E
def aOrV (a b : AE) : AE := fun ρ S Q E => a ρ S (onB fun c S1 => if c = true then Q (.bl true) S1 else b ρ S1 Q E) E
def aNotV (a : AE) : AE := fun ρ S Q E => a ρ S (onB fun c S1 => Q (.bl (!c)) S1) E
theorem ea_one {op : BoolOp} (h : EA X W a ta aa) : EA X W (.BoolOp op [a] pos) ta aa := ⟨pe_one h.pe, h.re⟩
theorem ea_and {rest : List Expr} (h : EA X W a ta aa) (k : EA X W (.BoolOp .And (b :: rest) pos) tb ab) : EA X W (.BoolOp .And (a :: b :: rest) pos) (tAndV ta tb) (aAndV aa ab) := by
  refine ⟨pe_and h.pe k.pe, fun σ H F S R ρ Q E P T en wo q po => h.re σ H F S R ρ _ E _ T en wo q fun v H1 F1 S1 d e1 T1 dv q1 => ?_⟩
  cases dv with
  | bl c =>
    refine ⟨c, rfl, ?_⟩
    cases c with
    | true => exact k.re σ H1 F1 S1 R ρ Q E P T1 (en.mono e1) (wo.mono e1) q1 (po.mono e1)
    | false => exact po (.bl false) H1 F1 S1 _ e1 T1 (.bl false) q1
  | _ => exact (show False from q1).elim
/-- a < b < c -/
def aChn (r r' : O2) (a b c : AE) : AE := fun ρ S Q E => a ρ S (fun d S1 => b ρ S1 (fun e S2 => r d e S2 (onB fun k S3 => if k = true then c ρ S3 (fun g S4 => r' e g S4 Q) E else Q (.bl false) S3)) E) E
end
end A

/-! ## statements, loops, comprehensions -/
namespace A
open PySem PySem.Spec L2 PyProof.Rows

structure AEnds where
  nx : En → Sto → Prop
  rt : KD
  bk : En → Sto → Prop := fun _ _ => False
  ct : En → Sto → Prop := fun _ _ => False
  xx : En → KX := fun _ _ _ => False
abbrev AS := AEnds → En → Sto → Prop
def PostN (K : KW) (F : Hp) (R : Sto) (Q : En → Sto → Prop) (P : St → Hp → Prop) : Prop :=
  ∀ σ' H' F' S' ρ', Same F F' → Sta K F' S' R H' → EnR K F' σ' ρ' → Q ρ' S' → P σ' H'
structure DnR (K : KW) (F : Hp) (R : Sto) (Da : AEnds) (Dc : Ends) : Prop where
  nx : PostN K F R Da.nx Dc.nx
  rt : Post K F R Da.rt Dc.rt
  bk : PostN K F R Da.bk Dc.bk
  ct : PostN K F R Da.ct Dc.ct
def WOkS (K : KW) (F : Hp) (R : Sto) (W : WX) (E : En → KX) : Prop :=
  ∀ cls dd σ' H' F' S' ρ' x, Same F F' → Sta K F' S' R H' → EnR K F' σ' ρ' → XR K F' H' cls dd x → E ρ' x S' → W cls dd σ' H'
def RS (K : KW) (W : WX) (t : TS) (a : AS) : Prop :=
  ∀ σ H F S R ρ Da Dc, Sta K F S R H → EnR K F σ ρ → WOkS K F R W Da.xx → DnR K F R Da Dc → a Da ρ S → t Dc σ H
section
variable {K : KW} {F F' : Hp} {R : Sto} {σ : St} {ρ : En} {W : WX}
theorem PostN.mono {Q : En → Sto → Prop} {P : St → Hp → Prop} (h : PostN K F R Q P) (e : Same F F') : PostN K F' R Q P := fun σ' H' F2 S' ρ' k => h σ' H' F2 S' ρ' (e.trans k)
theorem DnR.mono {Da : AEnds} {Dc : Ends} (h : DnR K F R Da Dc) (e : Same F F') : DnR K F' R Da Dc := ⟨h.nx.mono e, h.rt.mono e, h.bk.mono e, h.ct.mono e⟩
theorem WOkS.mono {E : En → KX} (h : WOkS K F R W E) (e : Same F F') : WOkS K F' R W E := fun c dd σ' H' F2 S' ρ' x k => h c dd σ' H' F2 S' ρ' x (e.trans k)
theorem WOkS.at_ {E : En → KX} (h : WOkS K F R W E) (en : EnR K F σ ρ) : WOk K F R σ W (E ρ) := fun c dd H' F2 S' x e T xr q => h c dd σ H' F2 S' ρ x e T (en.mono e) xr q
end
structure SA (X : Cx) (W : WX) (st : Stmt) (t : TS) (a : AS) : Prop where
  ps : PS X st t
  rs : RS X.kw W t a
structure SsA (X : Cx) (W : WX) (sts : List Stmt) (t : TS) (a : AS) : Prop where
  ps : PSs X sts t
  rs : RS X.kw W t a

section
variable {X : Cx} {W : WX} {st : Stmt} {rest : List Stmt} {t u : TS} {a b : AS} {e c : Expr} {te : TE} {ae : AE} {tc : TT} {ac : AT} {pos : Pos}
def aNext : AS := fun D ρ S => D.nx ρ S
def aSeq (a b : AS) : AS := fun D ρ S => a { D with nx := fun ρ' S' => b D ρ' S' } ρ S
theorem rs_next : RS X.kw W tNext aNext := fun σ H F S R ρ Da Dc T en wo dn h => dn.nx σ H F S ρ (Same.refl _) T en h
theorem ss_nil : SsA X W [] tNext aNext := ⟨pss_nil, rs_next⟩
theorem ss_cons (h1 : SA X W st t a) (h2 : SsA X W rest u b) : SsA X W (st :: rest) (tSeq t u) (aSeq a b) :=
  ⟨pss_cons h1.ps h2.ps, fun σ H F S R ρ Da Dc T en wo dn h => h1.rs σ H F S R ρ { Da with nx := fun ρ' S' => b Da ρ' S' } { Dc with nx := u Dc } T en wo
    ⟨fun σ' H' F' S' ρ' e T' en' q => h2.rs σ' H' F' S' R ρ' Da Dc T' en' (wo.mono e) (dn.mono e) q, dn.rt, dn.bk, dn.ct⟩ h⟩
theorem ss_one (h1 : SA X W st t a) : SsA X W [st] t a := ⟨pss_one h1.ps, h1.rs⟩
def aBreak : AS := fun D ρ S => D.bk ρ S
def aCont : AS := fun D ρ S => D.ct ρ S
def aDrop (a : AE) : AS := fun D ρ S => a ρ S (fun _ S1 => D.nx ρ S1) (D.xx ρ)
def aRet (a : AE) : AS := fun D ρ S => a ρ S D.rt (D.xx ρ)
theorem s_ret (h : EA X W e te ae) : SA X W (.Return (some e) pos) (tRet te) (aRet ae) :=
  ⟨ps_ret h.pe, fun σ H F S R ρ Da Dc T en wo dn q => h.re σ H F S R ρ _ _ _ T en (wo.at_ en) q dn.rt⟩
def aRetN : AS := fun D _ S => D.rt .non S
def aIf (c : AT) (a b : AS) : AS := fun D ρ S => c ρ S (fun k S1 => if k = true then a D ρ S1 else b D ρ S1) (D.xx ρ)
theorem s_if {l r : List Stmt} (hc : TstA X W c tc ac) (ha : SsA X W l t a) (hb : SsA X W r u b) : SA X W (.If c l r pos) (tIfS tc t u) (aIf ac a b) := by
  refine ⟨ps_if hc.pt ha.ps hb.ps, fun σ H F S R ρ Da Dc T en wo dn q => hc.rt σ H F S R ρ _ _ _ T en (wo.at_ en) q fun k H1 F1 S1 e1 T1 q1 => ?_⟩
  cases k with
  | true => exact ha.rs σ H1 F1 S1 R ρ Da Dc T1 (en.mono e1) (wo.mono e1) (dn.mono e1) q1
  | false => exact hb.rs σ H1 F1 S1 R ρ Da Dc T1 (en.mono e1) (wo.mono e1) (dn.mono e1) q1

/-! ### targets -/
abbrev AG := D → En → Sto → (En → Sto → Prop) → KX → Prop
abbrev AGs := List D → En → Sto → (En → Sto → Prop) → KX → Prop
def RG (K : KW) (W : WX) (t : TG) (a : AG) : Prop :=
  ∀ v d σ H F S R ρ Q E P, Sta K F S R H → EnR K F σ ρ → WOk K F R σ W E → Dv K F v d → a d ρ S Q E → PostN K F R Q P → t v σ H P
def RGs (K : KW) (W : WX) (t : TGs) (a : AGs) : Prop :=
  ∀ vs ds σ H F S R ρ Q E P, Sta K F S R H → EnR K F σ ρ → (∀ σ, WOk K F R σ W E) → DvL K F vs ds → a ds ρ S Q E → PostN K F R Q P → t vs σ H P
structure GA (X : Cx) (W : WX) (tg : Expr) (t : TG) (a : AG) : Prop where
  pg : PG X tg t
  rg : RG X.kw W t a
structure GsA (X : Cx) (W : WX) (tgs : List Expr) (t : TGs) (a : AGs) : Prop where
  pg : PGs X tgs t
  rg : RGs X.kw W t a
def agName (i : Nat) : AG := fun d ρ S Q _ => Q (ρ.set i (some d)) S
theorem g_name {i : Nat} {x : Str} (hN : X.N.Nodup) (hi : X.N[i]? = some x := by rfl) (hx : Loc X.env.scope x := by first | exact Or.inl rfl | exact Or.inr rfl)
    (hf : X.fn x = true ∨ X.env.scope.names.lookup x = some .local := by first | exact .inl rfl | exact .inr rfl | assumption) : GA X W (.Name x pos) (gName i) (agName i) :=
  ⟨pg_name hN hi hx hf, fun v d σ H F S R ρ Q E P T en wo dv q po => po _ H F S _ (Same.refl _) T (en.set dv) q⟩
def agNil : AGs := fun ds ρ S Q _ => ds = [] ∧ Q ρ S
def agCons (a : AG) (r : AGs) : AGs := fun ds ρ S Q E => match ds with | d :: ds => a d ρ S (fun ρ1 S1 => r ds ρ1 S1 Q E) E | [] => False
theorem gs_nil : GsA X W [] gNil agNil := by
  refine ⟨pgs_nil, fun vs ds σ H F S R ρ Q E P T en wo dv q po => ?_⟩
  obtain ⟨e, q⟩ := q
  subst e
  cases dv
  exact ⟨rfl, po σ H F S ρ (Same.refl _) T en q⟩
theorem gs_cons {e : Expr} {es : List Expr} {t : TG} {u : TGs} {a : AG} {r : AGs} (h1 : GA X W e t a) (h2 : GsA X W es u r) (hs : (assignEach (e :: es) X.env).map (·.2) = assign e X.env :: (assignEach es X.env).map (·.2) := by rfl) :
    GsA X W (e :: es) (gCons t u) (agCons a r) := by
  refine ⟨pgs_cons h1.pg h2.pg hs, fun vs ds σ H F S R ρ Q E P T en wo dv q po => ?_⟩
  cases dv with
  | nil => exact (show False from q).elim
  | cons h t' => exact ⟨_, _, rfl, h1.rg _ _ σ H F S R ρ _ E _ T en (wo σ) h q fun σ1 H1 F1 S1 ρ1 e1 T1 en1 q1 => h2.rg _ _ σ1 H1 F1 S1 R ρ1 Q E P T1 en1 (fun s => (wo s).mono e1) (t'.mono e1) q1 (po.mono e1)⟩
theorem pg_or {tg : Expr} {t1 t2 : TG} (h1 : PG X tg t1) (h2 : PG X tg t2) : PG X tg (fun v σ H Q => t1 v σ H Q ∨ t2 v σ H Q) :=
  ⟨fun pins s σ H v u Q I r h => h.elim (h1.run pins s σ H v u Q I r) (h2.run pins s σ H v u Q I r)⟩
/-- the items of a list or tuple, as they stand -/
def asL (S : Sto) : D → Option (List D)
  | .lst l => some l
  | .own a => match S a with | some (.lst l) => some l | _ => none
  | _ => none
def asSq (S : Sto) : D → Option (List D)
  | .tup l => some l
  | d => asL S d
theorem asL_ok {K : KW} {F H : Hp} {S R : Sto} {v : V} {d : D} {ds : List D} (T : Sta K F S R H) (h : Dv K F v d) (q : asL S d = some ds) : ∃ a xs, v = .ref a ∧ H a = some (.lst xs) ∧ DvL K F xs ds ∧ ds.length ≤ sizeLine := by
  cases h with
  | lst h z l => cases q; exact ⟨_, _, rfl, T.le _ _ h, l, z⟩
  | own a =>
    have q2 : (match S a with | some (.lst l) => some l | _ => none) = some ds := q
    split at q2
    · rename_i l e2
      cases q2
      obtain ⟨_, z, xs, h1, h2⟩ := T.own _ _ e2
      exact ⟨_, xs, rfl, h1, h2, z⟩
    · cases q2
  | _ => cases q
theorem asSq_ok {K : KW} {F H : Hp} {S R : Sto} {v : V} {d : D} {ds : List D} (T : Sta K F S R H) (h : Dv K F v d) (q : asSq S d = some ds) : ∃ a xs, v = .ref a ∧ (SqL K.K H a xs ∨ SqT K.K H a xs) ∧ DvL K F xs ds ∧ ds.length ≤ sizeLine := by
  cases d with
  | tup l =>
    cases q
    cases h with
    | tup h z l => exact ⟨_, _, rfl, .inr (SqT.same T.le h), l, z⟩
  | _ =>
    obtain ⟨a, xs, h1, h2, h3, h4⟩ := asL_ok T h q
    exact ⟨a, xs, h1, .inl (SqL.of h2), h3, h4⟩
def agTup (n : Nat) (r : AGs) : AG := fun d ρ S Q E => ∃ ds, asSq S d = some ds ∧ ds.length = n ∧ r ds ρ S Q E
theorem g_tup {es : List Expr} {k : Nat} {t : TGs} {r : AGs} {n : Nat} (hc : X.calm = true) (h : GsA X W es t r) (hw : ∀ {K F R σ σ' E}, WOk K F R σ W E → WOk K F R σ' W E)
    (hn : (assignEach es X.env).length = n := by rfl) (hst : (assignEach es X.env).findIdx? (·.1) = none := by rfl) :
    GA X W (.Tuple es k pos) (fun v σ H Q => gTup X.K n t v σ H Q ∨ gLst X.K n t v σ H Q) (agTup n r) := by
  refine ⟨pg_or (pg_tup hc h.pg hn hst) (pg_lst hc h.pg hn hst), fun v d σ H F S R ρ Q E P T en wo dv q po => ?_⟩
  obtain ⟨ds, e, hn, q⟩ := q
  obtain ⟨a, xs, rfl, h2, h3, _⟩ := asSq_ok T dv e
  have hl : xs.length = n := h3.len.trans hn
  have fin := h.rg xs ds σ H F S R ρ Q E P T en (fun s => hw wo) h3 q po
  cases h2 with
  | inl z => exact .inr ⟨a, xs, rfl, z, hl, fin⟩
  | inr z => exact .inl ⟨a, xs, rfl, z, hl, fin⟩
def aAsg (a : AE) (g : AG) : AS := fun D ρ S => a ρ S (fun d S1 => g d ρ S1 D.nx (D.xx ρ)) (D.xx ρ)
theorem s_asg {tg : Expr} {g : TG} {ag : AG} (h : EA X W e te ae) (hg : GA X W tg g ag) (hs : swapsWithSole [tg] e pos.line X.env = pure false := by rfl)
    (hsw : swappedStores [tg] e X.env = pure none := by rfl) (hm : (assignEach [tg] X.env).map (·.2) = [assign tg X.env] := by rfl) : SA X W (.Assign [tg] e pos) (tAsg te g) (aAsg ae ag) :=
  ⟨ps_asg h.pe hg.pg hs hsw hm, fun σ H F S R ρ Da Dc T en wo dn q => h.re σ H F S R ρ _ _ _ T en (wo.at_ en) q fun v H1 F1 S1 d e1 T1 dv q1 =>
    hg.rg v d σ H1 F1 S1 R ρ _ _ _ T1 (en.mono e1) ((wo.at_ en).mono e1) dv q1 (dn.nx.mono e1)⟩
def aSet (i : Nat) (a : AE) : AS := fun D ρ S => a ρ S (fun d S1 => D.nx (ρ.set i (some d)) S1) (D.xx ρ)
theorem s_set {i : Nat} {x : Str} {pos' : Pos} (h : EA X W e te ae) (hN : X.N.Nodup) (hi : X.N[i]? = some x := by rfl) (hx : Loc X.env.scope x := by first | exact Or.inl rfl | exact Or.inr rfl) (hs : swapsWith e (some (.Name x pos')) pos.line X.env = pure false := by rfl)
    (hf : X.fn x = true ∨ X.env.scope.names.lookup x = some .local := by first | exact .inl rfl | exact .inr rfl | assumption) : SA X W (.Assign [.Name x pos'] e pos) (tAsg te (gName i)) (aSet i ae) :=
  ⟨ps_set hN hi hx h.pe hs hf, fun σ H F S R ρ Da Dc T en wo dn q => h.re σ H F S R ρ _ _ _ T en (wo.at_ en) q fun v H1 F1 S1 d e1 T1 dv q1 => dn.nx _ H1 F1 S1 _ e1 T1 ((en.mono e1).set dv) q1⟩
/-- a, b = x, y -/
def aPar (i j : Nat) (ar : AA) : AS := fun D ρ S => ar ρ S (fun ds S1 => match ds with | [d, e] => D.nx ((ρ.set i (some d)).set j (some e)) S1 | _ => False) (D.xx ρ)
theorem s_par {i j : Nat} {x y : Str} {l r : Expr} {ta : TA} {ar : AA} {px py pt : Pos} {kt k2 : Nat} {pt2 : Pos} (hc : X.calm = true) (hN : X.N.Nodup) (ha : ArA X W [l, r] ta ar)
    (hi : X.N[i]? = some x := by rfl) (hj : X.N[j]? = some y := by rfl) (hij : i ≠ j := by decide) (hx : X.env.scope.names.lookup x = some .local := by rfl) (hy : X.env.scope.names.lookup y = some .local := by rfl)
    (hw : swappedStores [.Tuple [.Name x px, .Name y py] kt pt] (.Tuple [l, r] k2 pt2) X.env = pure (some [x, y]) := by rfl) (hs : swapsWithSole [.Tuple [.Name x px, .Name y py] kt pt] (.Tuple [l, r] k2 pt2) pos.line X.env = pure false := by rfl) :
    SA X W (.Assign [.Tuple [.Name x px, .Name y py] kt pt] (.Tuple [l, r] k2 pt2) pos) (tPar i j ta) (aPar i j ar) := by
  refine ⟨ps_par hc hN hi hj hij hx hy ha.pa hw hs, fun σ H F S R ρ Da Dc T en wo dn q => ha.ra σ H F S R ρ _ _ _ T en (wo.at_ en) q fun vs H1 F1 S1 ds e1 T1 dvs q1 => ?_⟩
  cases dvs with
  | nil => exact (show False from q1).elim
  | cons h1 t1 =>
    cases t1 with
    | nil => exact (show False from q1).elim
    | cons h2 t2 =>
      cases t2 with
      | cons _ _ => exact (show False from q1).elim
      | nil => exact ⟨_, _, rfl, dn.nx _ H1 F1 S1 _ e1 T1 (((en.mono e1).set h1).set h2) q1⟩
/-- x op= e -/
def aAug (i : Nat) (a : AE) (o : O2) : AS := fun D ρ S => atV ρ[i]? fun d => a ρ S (fun e S1 => o d e S1 fun g S2 => D.nx (ρ.set i (some g)) S2) (D.xx ρ)
structure IpA (X : Cx) (op : Operator) (t : TIp) (a : O2) : Prop where
  op : PIp X op t
  k : R2k X.kw t a
/-! ### while -/
/-! ### what is walked -/
structure WkA (K : KW) (F : Hp) (J : It) (ds : List D) (G : Sto → Prop) : Prop where
  len : ds.length ≤ sizeLine
  stops : ∀ F' S' R' H', Same F F' → Sta K F' S' R' H' → G S' → J.stop ds.length H'
  goes : ∀ i d F' S' R' H', Same F F' → Sta K F' S' R' H' → G S' → ds[i]? = some d → J.go i H'
  yields : ∀ i d F' S' R' H' x H2, Same F F' → Sta K F' S' R' H' → G S' → ds[i]? = some d → J.yld i H' x H2 → ∃ F2, Same F' F2 ∧ Sta K F2 S' R' H2 ∧ Dv K F2 x d
abbrev AI := En → Sto → (List D → (Sto → Prop) → Sto → Prop) → KX → Prop
def RI (K : KW) (W : WX) (wi : TI) (ai : AI) : Prop :=
  ∀ σ H F S R ρ Q E (P : It → Hp → Prop), Sta K F S R H → EnR K F σ ρ → WOk K F R σ W E → ai ρ S Q E →
    (∀ J H' F' S' ds G, Same F F' → Sta K F' S' R H' → WkA K F' J ds G → Q ds G S' → P J H') → wi σ H P
structure IA (X : Cx) (W : WX) (tg it : Expr) (wi : TI) (ai : AI) : Prop where
  pi : PI X tg it wi
  ri : RI X.kw W wi ai
def aLoop (g : AG) (b : AS) (D : AEnds) (G : Sto → Prop) : List A.D → En → Sto → Prop
  | [], ρ, S => G S ∧ D.nx ρ S
  | d :: r, ρ, S => G S ∧ g d ρ S (fun ρ1 S1 => b { D with nx := aLoop g b D G r, ct := aLoop g b D G r, bk := D.nx } ρ1 S1) (D.xx ρ)
theorem aLoop_guard {g : AG} {b : AS} {D : AEnds} {G : Sto → Prop} {ds : List A.D} {ρ : En} {S : Sto} (h : aLoop g b D G ds ρ S) : G S := by
  cases ds with
  | nil => exact h.1
  | cons d r => exact h.1
def aFor (ai : AI) (g : AG) (b : AS) : AS := fun D ρ S => ai ρ S (fun ds G S1 => aLoop g b D G ds ρ S1) (D.xx ρ)
theorem s_for {tg it : Expr} {body : List Stmt} {wi : TI} {ai : AI} {g : TG} {ag : AG} (hp : PassesOwn (model X.prog X.w) X.A X.env X.xe) (hc : X.calm = true) (hi : IA X W tg it wi ai) (hg : GA X W tg g ag) (hb : SsA X W body t a)
    (hs : ∀ x, foldedSetIterable it X.env x = pure x := by intros; rfl) : SA X W (.For tg it body [] pos) (tFor wi g t) (aFor ai ag a) := by
  refine ⟨ps_for hp hc hi.pi hg.pg hb.ps hs, fun σ H F S R ρ Da Dc T en wo dn q => ?_⟩
  refine hi.ri σ H F S R ρ _ _ _ T en (wo.at_ en) q fun J H1 F1 S1 ds G e1 T1 wk q1 => ?_
  refine ⟨fun i m σ H => i ≤ ds.length ∧ m = ds.length - i ∧ ∃ F2 S2 ρ2, Same F1 F2 ∧ Sta X.kw F2 S2 R H ∧ EnR X.kw F2 σ ρ2 ∧ aLoop ag a Da G (ds.drop i) ρ2 S2,
    ⟨ds.length, Nat.zero_le _, by omega, F1, S1, ρ, Same.refl _, T1, en.mono e1, q1⟩, ?_⟩
  rintro i m σ2 H2 ⟨hi, rfl, F2, S2, ρ2, e2, T2, en2, q2⟩
  have gd := aLoop_guard q2
  have e12 := e1.trans e2
  by_cases lt : i < ds.length
  · right
    have hd : ds[i]? = some ds[i] := List.getElem?_eq_getElem lt
    rw [List.drop_eq_getElem_cons lt] at q2
    refine ⟨wk.goes i _ F2 S2 R H2 e2 T2 gd hd, fun σ' H' => ∃ F3 S3 ρ3, Same F1 F3 ∧ Sta X.kw F3 S3 R H' ∧ EnR X.kw F3 σ' ρ3 ∧ aLoop ag a Da G (ds.drop (i + 1)) ρ3 S3,
      fun σ' H' z => ⟨ds.length - (i + 1), by omega, lt, rfl, z⟩, fun x H3 y => ?_⟩
    obtain ⟨F3, e3, T3, dv⟩ := wk.yields i _ F2 S2 R H2 x H3 e2 T2 gd hd y
    have e13 := e12.trans e3
    refine hg.rg x _ σ2 H3 F3 S2 R ρ2 _ _ _ T3 (en2.mono e3) ((wo.mono e13).at_ (en2.mono e3)) dv q2.2 fun σ4 H4 F4 S4 ρ4 e4 T4 en4 q4 => ?_
    have e14 := e13.trans e4
    have nxt : PostN X.kw F4 R (aLoop ag a Da G (ds.drop (i + 1))) (fun σ' H' => ∃ F3 S3 ρ3, Same F1 F3 ∧ Sta X.kw F3 S3 R H' ∧ EnR X.kw F3 σ' ρ3 ∧ aLoop ag a Da G (ds.drop (i + 1)) ρ3 S3) :=
      fun σ' H' F5 S5 ρ5 e5 T5 en5 q5 => ⟨F5, S5, ρ5, ((e2.trans e3).trans e4).trans e5, T5, en5, q5⟩
    refine hb.rs σ4 H4 F4 S4 R ρ4 { Da with nx := aLoop ag a Da G (ds.drop (i + 1)), ct := aLoop ag a Da G (ds.drop (i + 1)), bk := Da.nx } _ T4 en4 (wo.mono e14) ?_ q4
    exact ⟨nxt, dn.rt.mono e14, dn.nx.mono e14, nxt⟩
  · left
    have ei : i = ds.length := by omega
    subst ei
    rw [List.drop_length] at q2
    exact ⟨wk.stops F2 S2 R H2 e2 T2 gd, dn.nx σ2 H2 F2 S2 ρ2 e12 T2 en2 q2.2⟩

/-- a text's signs, as texts -/
def signs (z : Str) : List D := z.cps.toList.map fun c => .str ⟨#[c]⟩
def aItD : D → Sto → (List D → (Sto → Prop) → Sto → Prop) → Prop
  | .lst ds, S, Q => Q ds (fun _ => True) S
  | .tup ds, S, Q => Q ds (fun _ => True) S
  | .scr ns, S, Q => Q (ns.map D.int) (fun _ => True) S
  | .str z, S, Q => z.cps.size ≤ sizeLine ∧ Q (signs z) (fun _ => True) S
  | .own p, S, Q => ∃ ds, S p = some (.lst ds) ∧ Q ds (fun S' => S' p = some (.lst ds)) S
  | _, _, _ => False
def aIter (a : AE) : AI := fun ρ S Q E => a ρ S (fun d S1 => aItD d S1 Q) E
def rngD (lo : Int) (n : Nat) : List D := (List.range n).map fun (i : Nat) => .int (lo + (i : Int))
theorem wk_range {K : KW} {F : Hp} {lo : Int} {n : Nat} {G : Sto → Prop} (h : n ≤ sizeLine) : WkA K F (Itr lo n) (rngD lo n) G := by
  refine ⟨by unfold rngD; simpa using h, fun F' S' R' H' e T g => ?_, fun i d F' S' R' H' e T g hd => ?_, fun i d F' S' R' H' x H2 e T g hd y => ?_⟩
  · show n ≤ (rngD lo n).length
    unfold rngD
    simp
  · show i < n
    have := (List.getElem?_eq_some_iff.mp hd).1
    unfold rngD at this
    simpa using this
  · obtain ⟨e2, ex⟩ := y
    subst e2 ex
    have lt := (List.getElem?_eq_some_iff.mp hd).1
    unfold rngD at hd lt
    rw [List.length_map, List.length_range] at lt
    rw [List.getElem?_map, List.getElem?_range lt] at hd
    cases hd
    exact ⟨F', Same.refl _, T, .int _⟩
def aRng1 (ar : AA) : AI := fun ρ S Q E => ar ρ S (fun ds S1 => onL1 (fun j => -(2 ^ 62) ≤ j ∧ j ≤ 16777216 ∧ Q (rngD 0 j.toNat) (fun _ => True) S1) ds) E
def aRng2 (ar : AA) : AI := fun ρ S Q E => ar ρ S (fun ds S1 => onL2 (fun i j => -(2 ^ 62) ≤ i ∧ i < 2 ^ 61 ∧ -(2 ^ 62) ≤ j ∧ j - i ≤ 16777216 ∧ Q (rngD i (j - i).toNat) (fun _ => True) S1) ds) E
theorem i_range1 {tg x : Expr} {ta : TA} {ar : AA} {p : Pos} (hm : X.mg "range" = none) (h : ArA X W [x] ta ar) (hg : Gl X "range" := by rfl) (hs : starEach [x] X.env = [(false, eval x X.env)] := by rfl) :
    IA X W tg (.Call (.Name "range" p) [x] [] pos) (iRng1 ta) (aRng1 ar) := by
  refine ⟨pi_range1 hg hm h.pa hs, fun σ H F S R ρ Q E P T en wo q po => h.ra σ H F S R ρ _ E _ T en wo q fun vs H1 F1 S1 ds e1 T1 dvs q1 => ?_⟩
  cases dvs with
  | nil => exact (show False from q1).elim
  | cons h1 t1 =>
    cases t1 with
    | cons _ _ => cases h1 <;> exact (show False from q1).elim
    | nil =>
      cases h1 with
      | int j => exact ⟨j, rfl, q1.1, by have := q1.2.1; omega, po _ H1 F1 S1 _ _ e1 T1 (wk_range (by rw [sizeLine_eq]; have := q1.2.1; omega)) q1.2.2⟩
      | _ => exact (show False from q1).elim
end
end A

/-! ## comprehensions -/
namespace A
open PySem PySem.Spec L2 PyProof.Rows
def W0 : WX := fun _ _ _ _ => False
theorem tk0 {X : Cx} : Takes X W0 := L2.takes0
/-- the target stores into the block's own names alone -/
def WGt (vs : List Nat) (g : TG) : Prop := ∀ v (σ : St) H P, g v (wipe σ vs) H P → g v (wipe σ vs) H fun σ2 H2 => wipe σ2 vs = wipe σ vs ∧ P σ2 H2
theorem wipe_set : ∀ {vs : List Nat} {σ : St} {i : Nat} {x : Option V}, i ∈ vs → wipe (σ.set i x) vs = wipe σ vs
  | v :: vs, σ, i, x, h => by
    unfold wipe
    by_cases e : i ∈ vs
    · rw [wipe_set e]
    · have : i = v := by simpa [e] using h
      subst this
      have out : ∀ (l : List Nat) (τ : St), i ∉ l → wipe (τ.set i x) l = (wipe τ l).set i x := by
        intro l
        induction l with
        | nil => intro τ _; rfl
        | cons w l ih =>
          intro τ hn
          unfold wipe
          rw [ih τ (fun z => hn (List.mem_cons_of_mem _ z)), List.set_comm]
          intro z
          exact hn (by rw [z]; exact List.mem_cons_self)
      rw [out vs σ e, List.set_set]
theorem wipe_none {vs : List Nat} {σ : St} {i : Nat} (h : i ∈ vs) : (wipe σ vs).set i none = wipe σ vs := by
  induction vs with
  | nil => cases h
  | cons v vs ih =>
    unfold wipe
    by_cases e : i = v
    · subst e; rw [List.set_set]
    · have : i ∈ vs := by simpa [e] using h
      rw [List.set_comm _ _ (Ne.symm e), ih this]
theorem wipe_wipe {vs ws : List Nat} {σ : St} (h : ∀ i ∈ ws, i ∈ vs) : wipe (wipe σ vs) ws = wipe σ vs := by
  induction ws with
  | nil => rfl
  | cons w ws ih =>
    show (wipe (wipe σ vs) ws).set w none = _
    rw [ih fun i hi => h i (List.mem_cons_of_mem _ hi)]
    exact wipe_none (h w List.mem_cons_self)
theorem wgt_name {vs : List Nat} {i : Nat} (h : i ∈ vs) : WGt vs (gName i) := fun v σ H P q => ⟨by rw [wipe_set h, wipe_wipe fun i hi => hi], q⟩
def wipeA (ρ : En) : List Nat → En
  | [] => ρ
  | v :: vs => (wipeA ρ vs).set v none
theorem EnR.wipe {K : KW} {F : Hp} {σ : St} {ρ : En} (h : EnR K F σ ρ) : ∀ vs : List Nat, EnR K F (L2.wipe σ vs) (wipeA ρ vs)
  | [] => h
  | _ :: vs => (EnR.wipe h vs).unset
structure TsA (X : Cx) (ifs : List Expr) (t : TT) (a : AT) : Prop where
  pt : PTs X ifs t
  rt : RT X.kw W0 t a
def aYes : AT := fun _ S Q _ => Q true S
theorem ts_nil {X : Cx} : TsA X [] tYes aYes := ⟨pts_nil, fun σ H F S R ρ Q E P T en wo q po => po true H F S (Same.refl _) T q⟩
theorem ts_one {X : Cx} {c : Expr} {t : TT} {a : AT} (h : TstA X W0 c t a) : TsA X [c] t a := ⟨pts_one h.pt, h.rt⟩
def aLcL (g : AG) (tt : AT) (e : AE) (G : Sto → Prop) (ρ : En) (Q : KD) : List A.D → List A.D → Sto → Prop
  | [], acc, S => G S ∧ NewL acc S Q
  | d :: r, acc, S => G S ∧ g d ρ S (fun ρ2 S2 => tt ρ2 S2 (fun b S3 => if b = true then e ρ2 S3 (fun v S4 => aLcL g tt e G ρ Q r (acc ++ [v]) S4) noX else aLcL g tt e G ρ Q r acc S3) noX) noX
theorem aLcL_guard {g : AG} {tt : AT} {e : AE} {G : Sto → Prop} {ρ : En} {Q : KD} {ds acc : List A.D} {S : Sto} (h : aLcL g tt e G ρ Q ds acc S) : G S := by
  cases ds with
  | nil => exact h.1
  | cons d r => exact h.1
def aLc (ai : AI) (g : AG) (tt : AT) (e : AE) (vs : List Nat) : AE := fun ρ S Q E => ai ρ S (fun ds G S1 => aLcL g tt e G (wipeA ρ vs) Q ds [] S1) E
section
variable {X : Cx} {W : WX} {elt tg iter : Expr} {ifs : List Expr} {scope : Scope} {own : List (Str × Nat)} {pos : Pos} {wi : TI} {ai : AI} {g : TG} {ag : AG} {tt : TT} {at_ : AT} {te : TE} {ae : AE}
/-- the least reading of a piece of syntax that has the data's one -/
def tOf (K : KW) (W : WX) (a : AE) : TE := fun σ H P => ∃ F S R ρ Q E, Sta K F S R H ∧ EnR K F σ ρ ∧ WOk K F R σ W E ∧ a ρ S Q E ∧ Post K F R Q P
def tOfT (K : KW) (W : WX) (a : AT) : TT := fun σ H P => ∃ F S R ρ Q E, Sta K F S R H ∧ EnR K F σ ρ ∧ WOk K F R σ W E ∧ a ρ S Q E ∧ PostB K F R Q P
theorem pe_of {X : Cx} {W : WX} {e : Expr} {t : TE} {a : AE} (h : EA X W e t a) : PE X e (tOf X.kw W a) :=
  ⟨fun pins s σ H Q I ⟨F, S, R, ρ, Q', E, T, en, wo, q, po⟩ => h.pe.run pins s σ H Q I (h.re σ H F S R ρ Q' E Q T en wo q po)⟩
theorem re_of {K : KW} {W : WX} {a : AE} : RE K W (tOf K W a) a := fun σ H F S R ρ Q E P T en wo q po => ⟨F, S, R, ρ, Q, E, T, en, wo, q, po⟩
theorem pts_of {X : Cx} {es : List Expr} {t : TT} {a : AT} (h : TsA X es t a) : PTs X es (tOfT X.kw W0 a) :=
  ⟨fun pins s σ H Q I ⟨F, S, R, ρ, Q', E, T, en, wo, q, po⟩ => h.pt.run pins s σ H Q I (h.rt σ H F S R ρ Q' E Q T en wo q po)⟩
theorem rt_of {K : KW} {W : WX} {a : AT} : RT K W (tOfT K W a) a := fun σ H F S R ρ Q E P T en wo q po => ⟨F, S, R, ρ, Q, E, T, en, wo, q, po⟩
theorem noWOk {K : KW} {F : Hp} {R : Sto} {σ : St} : WOk K F R σ W0 noX := fun _ _ _ _ _ _ _ _ _ q => q.elim
theorem re_lc {vs : List Nat} (hw : WGt vs g) (hi : RI X.kw W wi ai) (hg : RG X.kw W0 g ag) (ht : RT X.kw W0 tt at_) (he : RE X.kw W0 te ae) : RE X.kw W (tLc wi g tt te vs) (aLc ai ag at_ ae vs) := by
  intro σ H F S R ρ Q E P T en wo q po
  refine hi σ H F S R ρ _ E _ T en wo q fun J H1 F1 S1 ds G e1 T1 wk q1 => ?_
  intro p hp
  obtain ⟨fF, fS, fR⟩ := T1.free hp
  refine ⟨fun i m H => i ≤ ds.length ∧ m = ds.length - i ∧ ∃ F2 S2 acc, acc.length ≤ i ∧ Same F1 F2 ∧ Sta X.kw F2 S2 (put R p (.lst acc)) H ∧ aLcL ag at_ ae G (wipeA ρ vs) Q (ds.drop i) acc S2,
    ⟨ds.length, Nat.zero_le _, by omega, F1, S1, [], Nat.zero_le _, Same.refl _, T1.hide hp ⟨Nat.zero_le _, [], upd_same, .nil⟩, q1⟩, ?_⟩
  rintro i m H2 ⟨hi, rfl, F2, S2, acc, hl, e2, T2, q2⟩
  have gd := aLcL_guard q2
  have e12 := e1.trans e2
  have en2 := (en.wipe vs).mono e12
  by_cases lt : i < ds.length
  · right
    have hd : ds[i]? = some ds[i] := List.getElem?_eq_getElem lt
    rw [List.drop_eq_getElem_cons lt] at q2
    refine ⟨wk.goes i _ F2 S2 _ H2 e2 T2 gd hd, fun H' => ∃ F3 S3 acc, acc.length ≤ i + 1 ∧ Same F1 F3 ∧ Sta X.kw F3 S3 (put R p (.lst acc)) H' ∧ aLcL ag at_ ae G (wipeA ρ vs) Q (ds.drop (i + 1)) acc S3,
      fun H' z => ⟨ds.length - (i + 1), by omega, lt, rfl, z⟩, fun x H3 y => ?_⟩
    obtain ⟨F3, e3, T3, dv⟩ := wk.yields i _ F2 S2 _ H2 x H3 e2 T2 gd hd y
    refine hw x σ H3 _ (hg x _ _ H3 F3 S2 _ _ _ noX _ T3 (en2.mono e3) noWOk dv q2.2 fun σ4 H4 F4 S4 ρ4 e4 T4 en4 q4 => ?_)
    refine ht σ4 H4 F4 S4 _ ρ4 _ noX _ T4 en4 noWOk q4 fun b H5 F5 S5 e5 T5 q5 => ?_
    have e25 := ((e2.trans e3).trans e4).trans e5
    cases b with
    | false => exact ⟨F5, S5, acc, by omega, e25, T5, q5⟩
    | true =>
      refine he σ4 H5 F5 S5 _ ρ4 _ noX _ T5 (en4.mono e5) noWOk q5 fun v H6 F6 S6 d e6 T6 dv6 q6 => ?_
      obtain ⟨hF, hS, z, xs, hx, hxs⟩ := T6.hid p _ put_same
      have zl := wk.len
      have hz : xs.length = acc.length := hxs.len
      refine ⟨xs, hx, by omega, F6, S6, acc ++ [d], by simp; omega, e25.trans e6, T6.hwrite ⟨by simp; omega, xs ++ [v], upd_same, hxs.append (.cons dv6 .nil)⟩, q6⟩
  · left
    have ei : i = ds.length := by omega
    subst ei
    rw [List.drop_length] at q2
    refine ⟨wk.stops F2 S2 _ H2 e2 T2 gd, ?_⟩
    obtain ⟨hF, hS, z, xs, hx, hxs⟩ := T2.hid p _ put_same
    rcases q2.2 with q3 | q3
    · have T3 := (T2.unhide fR).freeze hx hS fR hF
      exact po (.ref p) H2 _ S2 (.lst acc) (e12.trans (same_upd hF)) T3 (.lst upd_same z (hxs.mono (same_upd hF))) q3
    · exact po (.ref p) H2 F2 _ (.own p) e12 (T2.show fR) (.own p) (q3 p hS)
/-- [elt for tg in iter if ..] -/
theorem ea_lc (hc : X.calm = true) (hN : X.N.Nodup) (hi : IA X W tg iter wi ai) (ok : BlkOk X.N X.env.scope scope own) (hw : WGt (own.map (·.2)) g)
    (hg : ∀ (s : Shared) (H : Hp) (C : Addr) (cl : List (Str × Addr)) (fp : List Addr), GA (X.blk s H scope (compEnvC scope cl C X.env) fp) W0 tg g ag)
    (ht : ∀ (s : Shared) (H : Hp) (C : Addr) (cl : List (Str × Addr)) (fp : List Addr), ∃ tt, TsA (X.blk s H scope (compEnvC scope cl C X.env) fp) ifs tt at_)
    (he : ∀ (s : Shared) (H : Hp) (C : Addr) (cl : List (Str × Addr)) (fp : List Addr), ∃ te, EA (X.blk s H scope (compEnvC scope cl C X.env) fp) W0 elt te ae)
    (z : Shared × Hp × Addr × List (Str × Addr) × List Addr)
    (hs : ∀ x, foldedSetIterable iter X.env x = pure x := by intros; rfl) : EA X W (.ListComp elt [⟨tg, iter, ifs, 0⟩] scope pos) (tLc wi g (tOfT X.kw W0 at_) (tOf X.kw W0 ae) (own.map (·.2))) (aLc ai ag at_ ae (own.map (·.2))) :=
  ⟨pe_lc hc hN hi.pi ok (fun s H C cl fp => (hg s H C cl fp).pg) (fun s H C cl fp => let ⟨_, h⟩ := ht s H C cl fp; pts_of h) (fun s H C cl fp => let ⟨_, h⟩ := he s H C cl fp; pe_of h) hs,
    re_lc hw hi.ri (hg z.1 z.2.1 z.2.2.1 z.2.2.2.1 z.2.2.2.2).rg rt_of re_of⟩
end
end A

/-! ## defs, methods, instances -/
namespace A
open PySem PySem.Spec L2 PyProof.Rows

/-- another view of a value and of one's own objects: a list is data from now on, what plays no part is forgotten -/
def Gh (d : D) (S : Sto) (d' : D) (S' : Sto) : Prop := ∀ K F R H v, Sta K F S R H → Dv K F v d → ∃ F', Same F F' ∧ Sta K F' S' R H ∧ Dv K F' v d'
theorem gh_refl {d : D} {S : Sto} : Gh d S d S := fun K F R H v T dv => ⟨F, Same.refl _, T, dv⟩
theorem gh_drop {d : D} {S S' : Sto} (h : Sub S' S) : Gh d S d S' := fun K F R H v T dv => ⟨F, Same.refl _, T.drop h, dv⟩
def Ret (Q : KD) : KD := fun d S => ∃ d' S', Gh d S d' S' ∧ Q d' S'
theorem ret {Q : KD} {d : D} {S : Sto} (h : Q d S) : Ret Q d S := ⟨d, S, gh_refl, h⟩
theorem ret_drop {Q : KD} {d : D} {S S' : Sto} (h : Q d S') (e : Sub S' S) : Ret Q d S := ⟨d, S', gh_drop e, h⟩
theorem ret_post {K : KW} {F : Hp} {R : Sto} {Q : KD} {P : VK} (po : Post K F R Q P) : Post K F R (Ret Q) P := by
  rintro v H' F' S' d e T dv ⟨d', S2, g, q⟩
  obtain ⟨F2, e2, T2, dv2⟩ := g K F' R H' v T dv
  exact po v H' F2 S2 d' (e.trans e2) T2 dv2 q
def RetX (E : KX) : KX := fun x S => ∃ S', Sub S' S ∧ E x S'

abbrev SpA := List D → Sto → KD → KX → Prop
/-- what the heap has to bear for an abstract promise -/
def csp (K : KW) (sp : SpA) : Sp := fun vs H Qc Ec => ∃ ds F S R Q E, DvL K F vs ds ∧ Sta K F S R H ∧ sp ds S Q E ∧ Post K F R Q Qc ∧
  ∀ cls dd H' F' S' x, Same F F' → Sta K F' S' R H' → XR K F' H' cls dd x → E x S' → Ec cls dd H'
structure FnA (P : Program) (w : World) (K : PySem.W.Frag) (mg : Str → Option Value) (base : Heap) (k : Nat) (f : Addr) (fd : FuncData) (ps : List Str) (sp : SpA) : Prop where
  g : FnG P w K mg base k f fd ps (csp ⟨K, w⟩ sp)
section
variable {P : Program} {w : World} {K : PySem.W.Frag} {mg : Str → Option Value} {base : Heap}
theorem FnA.mono {j k : Nat} {f : Addr} {fd : FuncData} {ps : List Str} {sp : SpA} (F : FnA P w K mg base j f fd ps sp) (h : j ≤ k) : FnA P w K mg base k f fd ps sp := ⟨F.g.mono h⟩
theorem FnA.imp {k : Nat} {f : Addr} {fd : FuncData} {ps : List Str} {sp sp' : SpA} (F : FnA P w K mg base k f fd ps sp) (h : ∀ ds S Q E, sp' ds S Q E → sp ds S (Ret Q) (RetX E)) : FnA P w K mg base k f fd ps sp' := by
  refine ⟨F.g.imp ?_⟩
  rintro vs H Qc Ec ⟨ds, F, S, R, Q, E, dv, T, q, po, wx⟩
  refine ⟨ds, F, S, R, Ret Q, RetX E, dv, T, h ds S Q E q, ret_post po, ?_⟩
  rintro cls dd H' F' S' x e T' xr ⟨S2, sub, q2⟩
  exact wx cls dd H' F' S2 x e (T'.drop sub) xr q2
/-- the names' values at the entry -/
def startA (N : List Str) (ds : List D) : En := ds.map some ++ List.replicate (N.length - ds.length) none
theorem start_ok {K : KW} {F : Hp} {N : List Str} {vs : List V} {ds : List D} (h : DvL K F vs ds) : EnR K F (L2.start N vs) (startA N ds) := by
  have hl := h.len
  refine ⟨by unfold L2.start startA; simp [hl], fun i d q => ?_⟩
  unfold startA at q
  by_cases hi : i < ds.length
  · rw [List.getElem?_append_left (by simpa using hi), List.getElem?_map] at q
    cases e : ds[i]? with
    | none => rw [e] at q; cases q
    | some d' =>
      rw [e] at q
      cases q
      obtain ⟨v, h1, h2⟩ := h.getD e
      refine ⟨v, ?_, h2⟩
      unfold L2.start
      rw [List.getElem?_append_left (by rw [List.length_map]; omega), List.getElem?_map, h1]
      rfl
  · rw [List.getElem?_append_right (by simpa using hi), List.getElem?_replicate] at q
    split at q <;> cases q
abbrev wOf (E : XK) : WX := fun cls d _ H => E cls d H
def aEnd (Q : KD) (E : KX) : AEnds := { nx := fun _ S => Ret Q .non S, rt := Ret Q, xx := fun _ => RetX E }
theorem fnA_of {x qual : Str} {params : Arguments} {body : List Stmt} {scope : Scope} {dvs : List V} {kws : List (Str × V)} {f : Addr} {fd : FuncData} {N ps : List Str} {k : Nat} {sp : SpA} {a : AS}
    (F : FunD K x qual params body scope dvs kws f fd) (S : FnScope N ps scope) (len : ∀ ds S Q E, sp ds S Q E → ds.length = ps.length)
    (hb : ∀ (cdv : Value) (A : Around) (outer : List Env) (s : Shared) (H : Hp) (E : XK), RoomG k (A.deeper (envOfC qual scope s.heap.objs.size f cdv)) →
      ∃ t, SsA (cxOf (XT P w) P w K mg base N qual scope f cdv A outer s H E) (wOf E) body t a)
    (ha : ∀ ds S Q E, sp ds S Q E → a (aEnd Q E) (startA N ds) S) : FnA P w K mg base (k + 1) f fd ps sp := by
  refine ⟨fnG_of F S ?_ ?_⟩
  · rintro vs H Qc Ec ⟨ds, F, S, R, Q, E, dv, T, q, _⟩
    exact dv.len.trans (len ds S Q E q)
  · rintro cdv A outer s H vs Qc Ec hr ⟨ds, F', S', R, Q, E, dv, T, q, po, wx⟩
    obtain ⟨t, h⟩ := hb cdv A outer s H Ec hr
    refine ⟨t, h.ps, h.rs _ H F' S' R (startA N ds) (aEnd Q E) _ T (start_ok dv) ?_ ⟨?_, ret_post po, ?_, ?_⟩ (ha ds S' Q E q)⟩
    · rintro cls dd σ' H' F2 S2 ρ' x e T2 en xr ⟨S3, sub, q2⟩
      exact wx cls dd H' F2 S3 x e (T2.drop sub) xr q2
    · intro σ' H' F2 S2 ρ' e T2 en q2
      exact ret_post po .non H' F2 S2 .non e T2 .non q2
    · intro _ _ _ _ _ _ _ _ q2; exact q2.elim
    · intro _ _ _ _ _ _ _ _ q2; exact q2.elim
end
theorem takesT {P : Program} {w : World} {K : PySem.W.Frag} {mg : Str → Option Value} {base : Heap} {N : List Str} {qual : Str} {scope : Scope} {f : Addr} {cd : Value} {A : Around} {outer : List Env} {s : Shared} {H : Hp} {E : XK} :
    Takes (cxOf (XT P w) P w K mg base N qual scope f cd A outer s H E) (wOf E) := takes_of rfl rfl rfl rfl
theorem passT {P : Program} {w : World} {K : PySem.W.Frag} {mg : Str → Option Value} {base : Heap} {N : List Str} {qual : Str} {scope : Scope} {f : Addr} {cd : Value} {A : Around} {outer : List Env} {s : Shared} {H : Hp} {E : XK} :
    PassesOwn (model (cxOf (XT P w) P w K mg base N qual scope f cd A outer s H E).prog (cxOf (XT P w) P w K mg base N qual scope f cd A outer s H E).w) (cxOf (XT P w) P w K mg base N qual scope f cd A outer s H E).A
      (cxOf (XT P w) P w K mg base N qual scope f cd A outer s H E).env (cxOf (XT P w) P w K mg base N qual scope f cd A outer s H E).xe := passes_of rfl

/-! ### calls -/
/-- the module's name x is a def that keeps sp -/
structure GF (P : Program) (w : World) (K : PySem.W.Frag) (mg : Str → Option Value) (base : Heap) (x : Str) (k : Nat) (ps : List Str) (sp : SpA) : Prop where
  ex : ∃ f fd, mg x = some (.ref f) ∧ PySem.W.keepIn K (.ref f) = true ∧ Binds K fd ps [] ∧ FnA P w K mg base k f fd ps sp
/-- .. and what stands for its last parameters where they lack: dvs -/
structure GFd (P : Program) (w : World) (K : PySem.W.Frag) (mg : Str → Option Value) (base : Heap) (x : Str) (k : Nat) (ps : List Str) (dvs : List D) (sp : SpA) : Prop where
  ex : ∃ f fd vs us, mg x = some (.ref f) ∧ PySem.W.keepIn K (.ref f) = true ∧ Vals vs us ∧ (∀ F, DvL ⟨K, w⟩ F vs dvs) ∧ Binds K fd ps us ∧ FnA P w K mg base k f fd ps sp
section
variable {X : Cx} {W : WX} {k : Nat} {ps : List Str} {sp : SpA} {x m : Str} {p pos apos : Pos} {e o : Expr} {es : List Expr} {t : TA} {ar : AA} {to : TE} {ao : AE}
def tCl (K : KW) (W : WX) (sp : SpA) (t : TA) : TE := fun σ H Q => t σ H fun vs H1 => csp K sp vs H1 Q (WE W σ)
def aCl (sp : SpA) (ar : AA) : AE := fun ρ S Q E => ar ρ S (fun ds S1 => sp ds S1 (Ret Q) E) E
theorem csp_ok {K : KW} {F H : Hp} {S R : Sto} {σ : St} {vs : List V} {ds : List D} {Q : KD} {P : VK} {E : KX} (T : Sta K F S R H) (wo : WOk K F R σ W E) (dv : DvL K F vs ds) (q : sp ds S (Ret Q) E) (po : Post K F R Q P) :
    csp K sp vs H P (WE W σ) := ⟨ds, F, S, R, Ret Q, E, dv, T, q, ret_post po, fun cls dd H' F' S' x e T' xr q' => wo cls dd H' F' S' x e T' xr q'⟩
theorem re_cl (h : RA X.kw W t ar) : RE X.kw W (tCl X.kw W sp t) (aCl sp ar) := fun σ H F S R ρ Q E P T en wo q po =>
  h σ H F S R ρ _ E _ T en wo q fun vs H1 F1 S1 ds e1 T1 dvs q1 => csp_ok T1 (wo.mono e1) dvs q1 (po.mono e1)
theorem ea_call (G : GF X.prog X.w X.K X.mg X.base x k ps sp) (hr : RoomG k X.A) (tk : Takes X W) (h : ArA X W (e :: es) t ar) (hg : Gl X x := by rfl) (hdb : (x == ("__debug__" : Str)) = false := by decide)
    (he : starEach (e :: es) X.env = (false, eval e X.env) :: starEach es X.env := by rfl) (hpl : (backTo pos (starEach es X.env)).any (·.1) = false := by rfl) :
    EA X W (.Call (.Name x p) (e :: es) [] pos) (tCl X.kw W sp t) (aCl sp ar) := by
  obtain ⟨f, fd, hm, kp, hb, F⟩ := G.ex
  refine ⟨⟨fun pins s σ H Q I q => wpAny_Call_Name_kw (ld_glob I hg hm ?_ hdb)⟩, re_cl h.ra⟩
  refine PySem.W.callWith_K (h₀ := X.base) I.ok.mod.kin kp (thn (h.pa.run pos pins s σ H _ I q) fun us s1 ⟨vs, H1, I1, r, q1⟩ => ⟨I1.kIn, ?_⟩) he hpl
  have hl : (us ++ []).length = ps.length := by rw [List.append_nil, ← r.length]; exact F.g.len _ _ _ _ q1
  have hb' := hb s1 us I1.kIn hl
  rw [List.append_nil] at hb'
  exact run_g F.g hr tk I1 hb' r q1
/-- the last parameters lack -/
def aClD (sp : SpA) (dvs : List D) (ar : AA) : AE := fun ρ S Q E => ar ρ S (fun ds S1 => sp (ds ++ dvs) S1 (Ret Q) E) E
/-! ### instances -/
/-- the class at C: fields may be read and stored (those that it has not itself) -/
structure MF (P : Program) (w : World) (K : PySem.W.Frag) (mg : Str → Option Value) (base : Heap) (C : Addr) (m : Str) (k : Nat) (ps : List Str) (sp : SpA) : Prop where
  cl : Cls K C
  ex : ∃ f fd, Meth K C m f ∧ Binds K fd ps [] ∧ FnA P w K mg base k f fd ps sp
def insOf (S : Sto) (d : D) : Option (Addr × List (Str × D)) := match d with
  | .own a => match S a with | some (.ins C fs) => some (C, fs) | _ => none
  | _ => none
theorem DvP.none {κ : Type} [BEq κ] {K : KW} {F : Hp} {l : List (κ × V)} {q : List (κ × D)} {k : κ} (h : DvP K F l q) (e : q.lookup k = none) : l.lookup k = none := by
  rcases h.lookup (k := k) with ⟨_, z⟩ | ⟨d, v, z, _⟩
  · exact z
  · rw [e] at z; cases z
theorem DvP.some {κ : Type} [BEq κ] {K : KW} {F : Hp} {l : List (κ × V)} {q : List (κ × D)} {k : κ} {d : D} (h : DvP K F l q) (e : q.lookup k = some d) : ∃ v, l.lookup k = some v ∧ Dv K F v d := by
  rcases h.lookup (k := k) with ⟨z, _⟩ | ⟨d', v, z, z2, z3⟩
  · rw [e] at z; cases z
  · rw [e] at z; cases z; exact ⟨v, z2, z3⟩
def aMt (ok : Addr → Prop) (m : Str) (sp : SpA) (ao : AE) (ar : AA) : AE := fun ρ S Q E => ao ρ S (fun d S1 => ∃ C fs, insOf S1 d = some (C, fs) ∧ ok C ∧ fs.lookup m = none ∧ ar ρ S1 (fun ds S2 => sp (d :: ds) S2 (Ret Q) E) E) E
/-- C(e, ..) -/
structure CF (P : Program) (w : World) (K : PySem.W.Frag) (mg : Str → Option Value) (base : Heap) (x : Str) (C : Addr) (k : Nat) (ps : List Str) (sp : SpA) : Prop where
  ex : ∃ f fd, mg x = some (.ref C) ∧ Mk K C f ∧ Binds K fd ps [] ∧ FnA P w K mg base k f fd ps sp
def aMk (C : Addr) (sp : SpA) (ar : AA) : AE := fun ρ S Q E => ar ρ S (fun ds S1 => ∀ y, S1 y = none → sp (.own y :: ds) (put S1 y (.ins C [])) (Ret fun v S2 => v = .non ∧ Ret Q (.own y) S2) E) E
theorem Sta.junk {K : KW} {F H : Hp} {S R : Sto} {p : Addr} {u : HO} (T : Sta K F S R H) (h : H p = none) : Sta K F S R (upd H p u) := by
  have kH : Same H (upd H p u) := same_upd h
  exact ⟨T.le.trans kH, fun b c e => ⟨(T.own b c e).1, (T.own b c e).2.mono (Same.refl _) fun u z => kH b u z⟩, fun b c e => ⟨(T.hid b c e).1, (T.hid b c e).2.1, (T.hid b c e).2.2.mono (Same.refl _) fun u z => kH b u z⟩⟩
/-! ### fields -/
structure FdOk (K : PySem.W.Frag) (C : Addr) (f : Str) : Prop where
  cl : Cls K C
  no : NoAttr K C f
def aFl (ok : Addr → Prop) (f : Str) (ao : AE) : AE := fun ρ S Q E => ao ρ S (fun d S1 => ∃ C fs g, insOf S1 d = some (C, fs) ∧ ok C ∧ fs.lookup f = some g ∧ Q g S1) E
def putA (f : Str) (d : D) : List (Str × D) → List (Str × D)
  | [] => [(f, d)]
  | p :: r => if p.1 = f then (f, d) :: r else p :: putA f d r
theorem DvP.put {K : KW} {F : Hp} {f : Str} {v : V} {d : D} (h : Dv K F v d) : ∀ {l : List (Str × V)} {q : List (Str × D)}, DvP K F l q → DvP K F (putF f v l) (putA f d q)
  | _, _, .nil => .cons ⟨rfl, h⟩ .nil
  | (k1, v1) :: l, (k2, d1) :: q, .cons h1 t => by
    have e : k1 = k2 := h1.1
    subst e
    unfold putF putA
    by_cases z : k1 = f
    · subst z
      rw [if_pos rfl, if_pos rfl]
      exact .cons ⟨rfl, h⟩ t
    · rw [if_neg z, if_neg z]
      exact .cons h1 (DvP.put h t)
def aFst (ok : Addr → Prop) (f : Str) (ao av : AE) : AS := fun D ρ S => av ρ S (fun d S1 => ao ρ S1 (fun o S2 => ∃ a C fs, o = .own a ∧ S2 a = some (.ins C fs) ∧ ok C ∧ fs.length < 1000 ∧ D.nx ρ (put S2 a (.ins C (putA f d fs)))) (D.xx ρ)) (D.xx ρ)
end
end A

/-! ## data as a whole: ==, in, repr; operators, built-in functions by values -/
namespace A
open PySem PySem.Spec L2 PyProof.Rows

/-! ### deep data -/
def rdL (f : D → Option PyData) : List D → Option (List PyData)
  | [] => some []
  | d :: r => match f d, rdL f r with
    | some p, some q => some (p :: q)
    | _, _ => none
def rd (S : Sto) : Nat → D → Option PyData
  | 0, _ => none
  | n + 1, d => match d with
    | .non => some .none
    | .bl b => some (.bool b)
    | .int i => some (.int i)
    | .str x => if PyData.strOk x then some (.str x) else none
    | .lst l => (rdL (rd S n) l).map .list
    | .tup l => (rdL (rd S n) l).map .tuple
    | .own a => match S a with | some (.lst l) => (rdL (rd S n) l).map .list | _ => none
    | _ => none
/-- the value is to be read as p in every heap that H tells -/
theorem rd_dp {K : KW} {F H : Hp} {S R : Sto} (T : Sta K F S R H) : ∀ (n : Nat) (d : D) (v : V) (p : PyData), Dv K F v d → rd S n d = some p → Dp K.K H v p := by
  intro n
  induction n with
  | zero => intro d v p _ e; cases e
  | succ n ih =>
    have all : ∀ (l : List D) (xs : List V) (q : List PyData), DvL K F xs l → rdL (rd S n) l = some q → DpAll K.K H xs q := by
      intro l
      induction l with
      | nil =>
        intro xs q h e
        cases h
        cases e
        exact .nil
      | cons d l ihl =>
        intro xs q h e
        cases h with
        | cons h1 h2 =>
          unfold rdL at e
          cases e1 : rd S n d with
          | none => rw [e1] at e; cases e
          | some p =>
            cases e2 : rdL (rd S n) l with
            | none => rw [e1, e2] at e; cases e
            | some q' =>
              rw [e1, e2] at e
              cases e
              exact .cons (ih d _ p h1 e1) (ihl _ q' h2 e2)
    intro d v p h e
    cases h with
    | non => cases e; exact .non
    | bl b => cases e; exact .bl b
    | int i => cases e; exact .int i
    | str x =>
      have e' : (if PyData.strOk x then some (PyData.str x) else none) = some p := e
      split at e' <;> cases e'
      exact .str x
    | lst h z l =>
      have e' : (rdL (rd S n) _).map PyData.list = some p := e
      obtain ⟨q, e1, e2⟩ := Option.map_eq_some_iff.mp e'
      subst e2
      exact .lst (SqL.of (T.le _ _ h)) (all _ _ q l e1)
    | tup h z l =>
      have e' : (rdL (rd S n) _).map PyData.tuple = some p := e
      obtain ⟨q, e1, e2⟩ := Option.map_eq_some_iff.mp e'
      subst e2
      exact .tup (SqT.same T.le h) (all _ _ q l e1)
    | own a =>
      have e' : (match S a with | some (.lst l) => (rdL (rd S n) l).map PyData.list | _ => none) = some p := e
      split at e'
      · rename_i l hl
        obtain ⟨q, e1, e2⟩ := Option.map_eq_some_iff.mp e'
        subst e2
        obtain ⟨_, z, xs, h1, h2⟩ := T.own _ _ hl
        exact .lst (SqL.of h1) (all _ _ q h2 e1)
      · cases e'
    | _ => cases e
theorem rdL_map {α : Type} {f : D → Option PyData} {g : α → D} {h : α → PyData} (e : ∀ a, f (g a) = some (h a)) : ∀ l : List α, rdL f (l.map g) = some (l.map h)
  | [] => rfl
  | a :: l => by
    rw [List.map_cons, List.map_cons]
    show (match f (g a), rdL f (l.map g) with | some p, some q => some (p :: q) | _, _ => none) = _
    rw [e a, rdL_map e l]
/-- what is read may be compared and shown -/
theorem rd_lay {S : Sto} : ∀ (n : Nat) (d : D) (p : PyData), rd S n d = some p → p.canLay0 = true ∧ p.depth ≤ n := by
  intro n
  induction n with
  | zero => intro d p e; cases e
  | succ n ih =>
    have all : ∀ (l : List D) (q : List PyData), rdL (rd S n) l = some q → PyData.canLayAll0 q = true ∧ PyData.depthAll q ≤ n := by
      intro l
      induction l with
      | nil => intro q e; cases e; exact ⟨rfl, Nat.zero_le _⟩
      | cons d l ihl =>
        intro q e
        unfold rdL at e
        cases e1 : rd S n d with
        | none => rw [e1] at e; cases e
        | some p =>
          cases e2 : rdL (rd S n) l with
          | none => rw [e1, e2] at e; cases e
          | some q' =>
            rw [e1, e2] at e
            cases e
            obtain ⟨h1, h2⟩ := ih d p e1
            obtain ⟨h3, h4⟩ := ihl q' e2
            exact ⟨by simp only [PyData.canLayAll0, h1, h3, Bool.and_self], by simp only [PyData.depthAll]; omega⟩
    have fin : ∀ (l : List D) (p : PyData) (g : List PyData → PyData), (∀ q, (g q).canLay0 = PyData.canLayAll0 q ∧ (g q).depth = PyData.depthAll q + 1) → (rdL (rd S n) l).map g = some p → p.canLay0 = true ∧ p.depth ≤ n + 1 := by
      intro l p g hg e
      obtain ⟨q, e1, rfl⟩ := Option.map_eq_some_iff.mp e
      obtain ⟨h1, h2⟩ := all l q e1
      obtain ⟨g1, g2⟩ := hg q
      exact ⟨g1.trans h1, by omega⟩
    have hl : ∀ q, (PyData.list q).canLay0 = PyData.canLayAll0 q ∧ (PyData.list q).depth = PyData.depthAll q + 1 := fun q => ⟨by simp only [PyData.canLay0], by simp only [PyData.depth]⟩
    have ht : ∀ q, (PyData.tuple q).canLay0 = PyData.canLayAll0 q ∧ (PyData.tuple q).depth = PyData.depthAll q + 1 := fun q => ⟨by simp only [PyData.canLay0], by simp only [PyData.depth]⟩
    intro d p e
    cases d with
    | non => cases e; exact ⟨rfl, Nat.zero_le _⟩
    | bl b => cases e; exact ⟨rfl, Nat.zero_le _⟩
    | int i => cases e; exact ⟨rfl, Nat.zero_le _⟩
    | str x =>
      have e' : (if PyData.strOk x then some (PyData.str x) else none) = some p := e
      split at e'
      · rename_i h
        cases e'
        exact ⟨by simp only [PyData.canLay0, h], Nat.zero_le _⟩
      · cases e'
    | lst l => exact fin l p _ hl e
    | tup l => exact fin l p _ ht e
    | own a =>
      have e' : (match S a with | some (.lst l) => (rdL (rd S n) l).map PyData.list | _ => none) = some p := e
      split at e'
      · exact fin _ p _ hl e'
      · cases e'
    | _ => cases e
theorem rd_shaped {S : Sto} {n : Nat} {d : D} {p : PyData} (h : rd S n d = some p) (hn : n ≤ 60) : SeqAt.shaped p = true := by
  obtain ⟨h1, h2⟩ := rd_lay n d p h
  unfold SeqAt.shaped
  rw [h1, decide_eq_true (by omega : p.depth ≤ 64)]
  rfl
/-- == -/
def aEqD (neg : Bool) : O2 := fun d e S Q => match d, e with
  | .int i, .int j => Q (.bl (if neg then !decide (i = j) else decide (i = j))) S
  | .str i, .str j => Q (.bl (if neg then !decide (i = j) else decide (i = j))) S
  | .bl i, .bl j => Q (.bl (if neg then !decide (i = j) else decide (i = j))) S
  | d, e => ∃ n p q, n ≤ 60 ∧ rd S n d = some p ∧ rd S n e = some q ∧ Q (.bl (if neg then !PyData.eqv p q else PyData.eqv p q)) S
theorem eqD_ok {K : KW} {neg : Bool} {f : V → V → Bool} (hf : ∀ x y, f x y = (if neg then !decide (x = y) else decide (x = y))) : R2k K (fun x y H Q => (scal x y = true ∧ Q (.bl (f x y)) H) ∨ ∃ d e, Dp K.K H x d ∧ Dp K.K H y e ∧ SeqAt.shaped d = true ∧ SeqAt.shaped e = true ∧ Q (.bl (if neg then !PyData.eqv d e else PyData.eqv d e)) H) (aEqD neg) := by
  intro x y d e H F S R Q P T dx dy q po
  have deep : (∃ n p q, n ≤ 60 ∧ rd S n d = some p ∧ rd S n e = some q ∧ Q (.bl (if neg then !PyData.eqv p q else PyData.eqv p q)) S) → (scal x y = true ∧ P (.bl (f x y)) H) ∨ ∃ d e, Dp K.K H x d ∧ Dp K.K H y e ∧ SeqAt.shaped d = true ∧ SeqAt.shaped e = true ∧ P (.bl (if neg then !PyData.eqv d e else PyData.eqv d e)) H := by
    rintro ⟨n, p, p', hn, h1, h2, q⟩
    exact .inr ⟨p, p', rd_dp T n d x p dx h1, rd_dp T n e y p' dy h2, rd_shaped h1 hn, rd_shaped h2 hn, po _ H F S _ (Same.refl _) T (.bl _) q⟩
  unfold aEqD at q
  split at q
  · cases dx; cases dy
    exact .inl ⟨rfl, po _ H F S _ (Same.refl _) T (.bl _) (by rw [hf]; simpa using q)⟩
  · cases dx; cases dy
    exact .inl ⟨rfl, po _ H F S _ (Same.refl _) T (.bl _) (by rw [hf]; simpa using q)⟩
  · cases dx; cases dy
    exact .inl ⟨rfl, po _ H F S _ (Same.refl _) T (.bl _) (by rw [hf]; simpa using q)⟩
  · exact deep q
theorem o_eq {X : Cx} (hr : ∃ k, RoomG k X.A) : OpA X (compareOp .Eq) (fun x y H Q => rEq x y H Q ∨ rEqD X.K x y H Q) (aEqD false) := by
  obtain ⟨k, hr⟩ := hr
  exact ⟨op_eq.or (op_eqD hr.room.units), eqD_ok (neg := false) fun _ _ => rfl⟩
theorem o_ne {X : Cx} (hr : ∃ k, RoomG k X.A) : OpA X (compareOp .NotEq) (fun x y H Q => rNe x y H Q ∨ rNeD X.K x y H Q) (aEqD true) := by
  obtain ⟨k, hr⟩ := hr
  exact ⟨op_ne.or (op_neD hr.room.units), eqD_ok (neg := true) fun _ _ => rfl⟩

/-! ### ints -/
section
variable {X : Cx}
def aI2 (C : Int → Int → Prop) (g : Int → Int → D) : O2 := fun d e S Q => onII (fun i j => C i j ∧ Q (g i j) S) d e
theorem k_i2 {K : KW} {C : Int → Int → Prop} {g : Int → Int → V} {g' : Int → Int → D} (hg : ∀ F i j, Dv K F (g i j) (g' i j)) : R2k K (rI C g) (aI2 C g') := by
  intro x y d e H F S R Q P T dx dy q po
  cases dx with
  | int i =>
    cases dy with
    | int j => exact ⟨i, j, rfl, rfl, q.1, po _ H F S _ (Same.refl _) T (hg F i j) q.2⟩
    | _ => exact (show False from q).elim
  | _ => exact (show False from q).elim
def aI20 (g : Int → Int → D) : O2 := fun d e S Q => onII (fun i j => Q (g i j) S) d e
theorem k_i20 {K : KW} {g : Int → Int → V} {g' : Int → Int → D} (hg : ∀ F i j, Dv K F (g i j) (g' i j)) : R2k K (rI0 g) (aI20 g') := by
  intro x y d e H F S R Q P T dx dy q po
  cases dx with
  | int i =>
    cases dy with
    | int j => exact ⟨i, j, rfl, rfl, po _ H F S _ (Same.refl _) T (hg F i j) q⟩
    | _ => exact (show False from q).elim
  | _ => exact (show False from q).elim
abbrev aSub : O2 := aI20 fun i j => .int (i - j)
theorem o_sub : OpA X (binaryOp .Sub) (rI0 fun i j => .int (i - j)) aSub := ⟨op_sub, k_i20 fun _ _ _ => .int _⟩
abbrev aMod : O2 := aI2 (fun _ j => 0 < j) fun i j => .int (i % j)
theorem o_mod : OpA X (binaryOp .Mod) (rI (fun _ j => 0 < j) fun i j => .int (i % j)) aMod := ⟨op_mod, k_i2 fun _ _ _ => .int _⟩
abbrev aFdv : O2 := aI2 CDivW fun i j => .int (i / j)
theorem o_fdiv : OpA X (binaryOp .FloorDiv) (rI CDivW fun i j => .int (i / j)) aFdv := ⟨op_fdivW, k_i2 fun _ _ _ => .int _⟩
abbrev aPow : O2 := aI2 CPow fun i j => .int (i ^ j.toNat)
theorem o_pow : OpA X (binaryOp .Pow) (rI CPow fun i j => .int (i ^ j.toNat)) aPow := ⟨op_pow, k_i2 fun _ _ _ => .int _⟩
abbrev aShl : O2 := aI2 CPow fun i j => .int (i * 2 ^ j.toNat)
abbrev aShr : O2 := aI2 (fun _ j => 0 ≤ j) fun i j => .int (i / 2 ^ j.toNat)
abbrev aXor : O2 := aI20 fun i j => .int (Builtin.bitXor i j)
abbrev aLt : O2 := aI20 fun i j => .bl (decide (i < j))
theorem o_lt : OpA X (compareOp .Lt) (rI0 fun i j => .bl (decide (i < j))) aLt := ⟨op_lt, k_i20 fun _ _ _ => .bl _⟩
abbrev aLe : O2 := aI20 fun i j => .bl (decide (i ≤ j))
abbrev aGt : O2 := aI20 fun i j => .bl (decide (j < i))
theorem o_gt : OpA X (compareOp .Gt) (rI0 fun i j => .bl (decide (j < i))) aGt := ⟨op_gt, k_i20 fun _ _ _ => .bl _⟩
abbrev aGe : O2 := aI20 fun i j => .bl (decide (j ≤ i))
def aNeg : O1 := fun d S Q => onI (fun i S => Q (.int (-i)) S) d S
/-- the left or the right factor is below 2 ^ 64 -/
abbrev aMul : O2 := aI2 CMul fun i j => .int (i * j)
theorem o_mul : OpA X (binaryOp .Mult) (rI CMul fun i j => .int (i * j)) aMul := ⟨op_mul, k_i2 fun _ _ _ => .int _⟩
/-- a + b -/
def aAdd : D → D → Sto → KD → Prop
  | .int i, .int j, S, Q => Q (.int (i + j)) S
  | .str x, .str y, S, Q => x.length + y.length ≤ sizeLine ∧ Q (.str (x ++ y)) S
  | d, e, S, Q => ∃ xs ys, asL S d = some xs ∧ asL S e = some ys ∧ xs.length + ys.length ≤ sizeLine ∧ NewL (xs ++ ys) S Q
def rAddS : R2 := fun x y H Q => ∃ i j, x = .str i ∧ y = .str j ∧ i.length + j.length ≤ sizeLine ∧ Q (.str (i ++ j)) H
theorem o_add : OpA X (binaryOp .Add) (fun x y H Q => rI0 (fun i j => .int (i + j)) x y H Q ∨ rAddS x y H Q ∨ rCat x y H Q) aAdd := by
  refine ⟨op_add.or (op_add_str.or op_cat), fun x y d e H F S R Q P T dx dy q po => ?_⟩
  have lists : (∃ xs ys, asL S d = some xs ∧ asL S e = some ys ∧ xs.length + ys.length ≤ sizeLine ∧ NewL (xs ++ ys) S Q) → rCat x y H P := by
    rintro ⟨xs, ys, h1, h2, hz, q⟩
    obtain ⟨a, vs, rfl, ha, hv, _⟩ := asL_ok T dx h1
    obtain ⟨b, ws, rfl, hb, hw, _⟩ := asL_ok T dy h2
    exact ⟨a, b, vs, ws, rfl, rfl, ha, hb, by rw [hv.len, hw.len]; exact hz, newL_ok T (hv.append hw) (by rw [List.length_append]; exact hz) q po⟩
  cases dx with
  | int i =>
    cases dy with
    | int j => exact .inl ⟨i, j, rfl, rfl, po _ H F S _ (Same.refl _) T (.int _) q⟩
    | _ => exact .inr (.inr (lists q))
  | str i =>
    cases dy with
    | str j => exact .inr (.inl ⟨i, j, rfl, rfl, q.1, po _ H F S _ (Same.refl _) T (.str _) q.2⟩)
    | _ => exact .inr (.inr (lists q))
  | _ => exact .inr (.inr (lists q))
/-- x is None, x is True .. -/
def aIs (neg : Bool) : D → D → Sto → KD → Prop
  | .bl a, .bl b, S, Q => Q (.bl (if neg then !decide (a = b) else decide (a = b))) S
  | .non, .non, S, Q => Q (.bl (!neg)) S
  | .int _, .non, S, Q | .str _, .non, S, Q | .lst _, .non, S, Q | .tup _, .non, S, Q | .own _, .non, S, Q | .bl _, .non, S, Q => Q (.bl neg) S
  | _, _, _, _ => False
theorem o_is : OpA X (compareOp .Is) (fun x y H Q => (y = .non ∧ Q (.bl (decide (x = .non))) H) ∨ rIsB x y H Q) (aIs false) := by
  refine ⟨op_isN.or op_isBl, fun x y d e H F S R Q P T dx dy q po => ?_⟩
  cases dx <;> cases dy <;> first
    | exact (show False from q).elim
    | exact .inr ⟨_, _, rfl, rfl, po _ H F S _ (Same.refl _) T (.bl _) q⟩
    | exact .inl ⟨rfl, po _ H F S _ (Same.refl _) T (.bl _) (by simpa [aIs] using q)⟩
end
end A

/-! ## places, slices, stores, the built-in functions and the methods of lists -/
namespace A
open PySem PySem.Spec L2 PyProof.Rows

section
variable {K : KW} {F H : Hp} {S R : Sto}
theorem DvL.atI {vs : List V} {ds : List D} {i : Int} {d : D} (h : DvL K F vs ds) (e : atI ds i = some d) : ∃ v, L2.atI vs i = some v ∧ Dv K F v d := by
  unfold L2.atI at e ⊢
  rw [h.len]
  cases q : ixN ds.length i with
  | none => rw [q] at e; cases e
  | some j => rw [q] at e; exact h.getD e
/-- the value at a place -/
def aIx : D → D → Sto → KD → Prop
  | .lst l, .int i, S, Q => ∃ x, atI l i = some x ∧ Q x S
  | .tup l, .int i, S, Q => ∃ x, atI l i = some x ∧ Q x S
  | .scr l, .int i, S, Q => ∃ x, atI l i = some x ∧ Q (.int x) S
  | .str z, .int i, S, Q => z.length ≤ sizeLine ∧ ∃ c, atI z.cps.toList i = some c ∧ Q (.str ⟨#[c]⟩) S
  | .own a, .int i, S, Q => match S a with
    | some (.lst l) => ∃ x, atI l i = some x ∧ Q x S
    | some .pot => ∀ x y, PotOk x y → ∃ z, atI [x, y] i = some z ∧ Q (.int z) S
    | _ => False
  | _, _, _, _ => False
theorem ix_ok : R2k K (rIx K.K) aIx := by
  intro x y d e H F S R Q P T dx dy q po
  cases dy with
  | int i =>
    cases dx with
    | lst h z l =>
      obtain ⟨w, h1, h2⟩ := q
      obtain ⟨v, h3, h4⟩ := l.atI h1
      exact .inl ⟨_, _, i, v, rfl, rfl, SqL.of (T.le _ _ h), h3, po v H F S w (Same.refl _) T h4 h2⟩
    | tup h z l =>
      obtain ⟨w, h1, h2⟩ := q
      obtain ⟨v, h3, h4⟩ := l.atI h1
      exact .inr (.inl ⟨_, _, i, v, rfl, rfl, SqT.same T.le h, h3, po v H F S w (Same.refl _) T h4 h2⟩)
    | scr h z =>
      obtain ⟨w, h1, h2⟩ := q
      refine .inl ⟨_, _, i, .int w, rfl, rfl, T.le.seq h, ?_, po (.int w) H F S (.int w) (Same.refl _) T (.int w) h2⟩
      unfold L2.atI at h1 ⊢
      rw [List.length_map]
      cases e : ixN _ i with
      | none => rw [e] at h1; cases h1
      | some j =>
        rw [e] at h1
        show (List.map V.int _)[j]? = some (V.int w)
        rw [List.getElem?_map]
        exact congrArg (Option.map V.int) h1
    | str z =>
      obtain ⟨h0, c, h1, h2⟩ := q
      exact .inr (.inr ⟨z, i, c, rfl, rfl, h0, h1, po _ H F S _ (Same.refl _) T (.str _) h2⟩)
    | own a =>
      have q2 : (match S a with
        | some (.lst l) => ∃ x, atI l i = some x ∧ Q x S
        | some .pot => ∀ x y, PotOk x y → ∃ z, atI [x, y] i = some z ∧ Q (.int z) S
        | _ => False) := q
      split at q2
      · rename_i l hS
        obtain ⟨w, h1, h2⟩ := q2
        obtain ⟨_, z, xs, h3, h4⟩ := T.own _ _ hS
        obtain ⟨v, h5, h6⟩ := h4.atI h1
        exact .inl ⟨_, _, i, v, rfl, rfl, SqL.of h3, h5, po v H F S w (Same.refl _) T h6 h2⟩
      · rename_i hS
        obtain ⟨_, x, y, h3, h4⟩ := T.own _ _ hS
        obtain ⟨w, h1, h2⟩ := q2 x y h4
        refine .inl ⟨_, _, i, .int w, rfl, rfl, SqL.of h3, ?_, po (.int w) H F S (.int w) (Same.refl _) T (.int w) h2⟩
        unfold L2.atI at h1 ⊢
        cases e : ixN [x, y].length i with
        | none => rw [e] at h1; cases h1
        | some j =>
          rw [e] at h1
          have : ([x, y].map V.int)[j]? = some (V.int w) := by
            rw [List.getElem?_map]
            exact congrArg (Option.map V.int) h1
          exact this
      · exact (show False from q2).elim
    | _ => exact (show False from q).elim
  | _ => cases d <;> exact (show False from q).elim
/-- o[i] = v -/
def aPut : D → D → D → Sto → (Sto → Prop) → Prop
  | .own a, .int k, v, S, Q => match S a with
    | some (.lst l) => ∃ j, ixN l.length k = some j ∧ Q (put S a (.lst (l.set j v)))
    | some .pot => ∃ n, v = .int n ∧ ((k = 0 ∧ 0 ≤ n ∧ n.natAbs.log2 < 2 ^ 20 + 64) ∨ (k = 1 ∧ 0 ≤ n ∧ n < 2147483648)) ∧ Q S
    | _ => False
  | _, _, _, _, _ => False
theorem put_ok {x y z : V} {o i v : D} {Q : Sto → Prop} {P : Hp → Prop} (T : Sta K F S R H) (dx : Dv K F x o) (dy : Dv K F y i) (dz : Dv K F z v) (q : aPut o i v S Q)
    (po : ∀ H' S', Sta K F S' R H' → Q S' → P H') : rSetL x y z H P := by
  cases dx with
  | own a =>
    cases dy with
    | int k =>
      have q2 : (match S a with
        | some (.lst l) => ∃ j, ixN l.length k = some j ∧ Q (put S a (.lst (l.set j v)))
        | some .pot => ∃ n, v = .int n ∧ ((k = 0 ∧ 0 ≤ n ∧ n.natAbs.log2 < 2 ^ 20 + 64) ∨ (k = 1 ∧ 0 ≤ n ∧ n < 2147483648)) ∧ Q S
        | _ => False) := q
      split at q2
      · rename_i l hS
        obtain ⟨j, h1, h2⟩ := q2
        obtain ⟨hF, zl, xs, h3, h4⟩ := T.own _ _ hS
        refine ⟨a, xs, k, j, rfl, rfl, h3, by rw [h4.len]; exact h1, po _ _ (T.write (c' := .lst (l.set j v)) hS ⟨by rw [List.length_set]; exact zl, _, upd_same, h4.set j dz⟩) h2⟩
      · rename_i hS
        obtain ⟨n, rfl, h1, h2⟩ := q2
        cases dz
        obtain ⟨hF, x, y, h3, h4⟩ := T.own _ _ hS
        have fin : ∀ j x' y', [V.int x, V.int y].set j (V.int n) = [V.int x', V.int y'] → PotOk x' y' → P (upd H a (.lst ([V.int x, V.int y].set j (V.int n)))) := fun j x' y' e p => by
          have T2 := T.write (a := a) (o := .lst [V.int x', V.int y']) (c' := .pot) hS ⟨x', y', upd_same, p⟩
          rw [put_id hS] at T2
          rw [e]
          exact po _ _ T2 h2
        rcases h1 with ⟨rfl, g1, g2⟩ | ⟨rfl, g1, g2⟩
        · exact ⟨a, _, 0, 0, rfl, rfl, h3, rfl, fin 0 n y rfl ⟨g1, g2, h4.2.2⟩⟩
        · exact ⟨a, _, 1, 1, rfl, rfl, h3, rfl, fin 1 x n rfl ⟨h4.1, h4.2.1, g1, g2⟩⟩
      · exact (show False from q2).elim
    | _ => exact (show False from q).elim
  | _ => exact (show False from q).elim
end
section
variable {X : Cx} {W : WX} {a b e o i : Expr} {ta tb te to ti : TE} {aa ab ae ao ai : AE} {pos p : Pos}
theorem ea_ix (ha : EA X W a ta aa) (hb : EA X W b tb ab) (hs : PlainIx b := by intro _ _; rfl) : EA X W (.Subscript a b pos) (tOp (rIx X.K) ta tb) (aOp aIx aa ab) := ⟨pe_ix ix_seq ha.pe hb.pe hs, re_op ix_ok ha.re hb.re⟩
def agSub (ao ai : AE) : AG := fun v ρ S Q E => ao ρ S (fun o S1 => ai ρ S1 (fun i S2 => aPut o i v S2 fun S3 => Q ρ S3) E) E
theorem g_sub (ho : EA X W o to ao) (hi : EA X W i ti ai)
    (hx : ∀ v, assign (.Subscript o i pos) X.env v = (do
      let ov ← holding [v] (eval o X.env)
      let iv ← holding [v, ov] (eval i X.env)
      standAt pos
      holding [v, ov, iv] (setItem ov iv v)
      release [v, ov, iv] []) := by intro _; rfl) : GA X W (.Subscript o i pos) (gSub to ti rSetL) (agSub ao ai) := by
  refine ⟨pg_sub ho.pe hi.pe set_list hx, fun v d σ H F S R ρ Q E P T en wo dv q po => ho.re σ H F S R ρ _ E _ T en wo q fun x H1 F1 S1 d1 e1 T1 dx q1 => ?_⟩
  refine hi.re σ H1 F1 S1 R ρ _ E _ T1 (en.mono e1) (wo.mono e1) q1 fun y H2 F2 S2 d2 e2 T2 dy q2 => ?_
  exact put_ok T2 (dx.mono e2) dy (dv.mono (e1.trans e2)) q2 fun H' S' T3 q3 => po σ H' F2 S' ρ (e1.trans e2) T3 (en.mono (e1.trans e2)) q3
/-! ### slices -/
abbrev AO := En → Sto → (Option Int → Sto → Prop) → KX → Prop
structure OA (X : Cx) (W : WX) (e : Option Expr) (t : TO) (a : AO) : Prop where
  po : PO X e t
  ro : ∀ σ H F S R ρ Q E (P : Option Int → Hp → Prop), Sta X.kw F S R H → EnR X.kw F σ ρ → WOk X.kw F R σ W E → a ρ S Q E → (∀ v H' F' S', Same F F' → Sta X.kw F' S' R H' → Q v S' → P v H') → t σ H P
def aoN : AO := fun _ S Q _ => Q none S
def aoS (a : AE) : AO := fun ρ S Q E => a ρ S (onI fun i S1 => Q (some i) S1) E
def cutD (xs : List D) (lo hi : Option Int) : List D := (xs.drop (HT.sIx xs.length 0 lo)).take (HT.sIx xs.length xs.length hi - HT.sIx xs.length 0 lo)
def aSl (ae : AE) (al ah : AO) : AE := fun ρ S Q E => ae ρ S (fun d S1 => al ρ S1 (fun l S2 => ah ρ S2 (fun u S3 => ∃ ds, asL S3 d = some ds ∧ NewL (cutD ds l u) S3 Q) E) E) E
def aRev (ae : AE) : AE := fun ρ S Q E => ae ρ S (fun d S1 => ∃ ds, asL S1 d = some ds ∧ NewL ds.reverse S1 Q) E
/-! ### built-in functions -/
def lenD (S : Sto) (d : D) : Option Nat := match d with
  | .lst l => some l.length
  | .tup l => some l.length
  | .scr l => some l.length
  | .str z => if z.length ≤ sizeLine then some z.length else none
  | .own a => match S a with | some (.lst l) => some l.length | _ => none
  | _ => none
def aLen : ON := fun ds S Q => ∃ d n, ds = [d] ∧ lenD S d = some n ∧ Q (.int n) S
theorem c_len : CallA X (.builtin "len") (fun xs H Q => ∃ x n, xs = [x] ∧ LenV X.K x H n ∧ Q (.int n) H) aLen := by
  refine ⟨call_len, ?_⟩
  rintro xs ds H F S R Q P T dvs ⟨d, n, rfl, hn, q⟩ po
  cases dvs with
  | cons h t =>
    cases t
    refine ⟨_, n, rfl, ?_, po _ H F S _ (Same.refl _) T (.int _) q⟩
    cases h with
    | lst h z l => cases hn; exact .inl ⟨_, SqL.of (T.le _ _ h), l.len.symm⟩
    | tup h z l => cases hn; exact .inr ⟨_, SqT.same T.le h, l.len.symm⟩
    | scr h z => cases hn; exact .inl ⟨_, T.le.seq h, by rw [List.length_map]⟩
    | str z =>
      have hn' : (if z.length ≤ sizeLine then some z.length else none) = some n := hn
      by_cases g : z.length ≤ sizeLine
      · rw [if_pos g] at hn'; cases hn'; exact ⟨g, rfl⟩
      · rw [if_neg g] at hn'; cases hn'
    | own a =>
      have hn' : (match S a with | some (.lst l) => some l.length | _ => none) = some n := hn
      split at hn'
      · rename_i l hS
        cases hn'
        obtain ⟨_, z, xs, h3, h4⟩ := T.own _ _ hS
        exact .inl ⟨xs, SqL.of h3, h4.len.symm⟩
      · cases hn'
    | _ => cases hn
/-- the items of a list, a tuple or the script, as data -/
def itD (S : Sto) (d : D) : Option (List D) := match d with
  | .scr l => some (l.map .int)
  | .tup l => some l
  | d => asL S d
def aList : ON := fun ds S Q => ∃ d l, ds = [d] ∧ itD S d = some l ∧ NewL l S Q
/-- tuple(x) of a list -/
def aTupOf : ON := fun ds S Q => ∃ d l, ds = [d] ∧ itD S d = some l ∧ Q (.tup l) S
/-- list(range(n)), list(range(a, b)) -/
def aLRg1 (aa : AE) : AE := fun ρ S Q E => aa ρ S (onI fun n S1 => RgOk 0 n ∧ NewL (rngD 0 n.toNat) S1 Q) E
def aLRg2 (aa ab : AE) : AE := fun ρ S Q E => aa ρ S (fun d S1 => ab ρ S1 (fun e S2 => onII (fun i j => RgOk i j ∧ NewL (rngD i (j - i).toNat) S2 Q) d e) E) E
theorem rngD_length {i : Int} {n : Nat} : (rngD i n).length = n := by unfold rngD; simp
def aAbs : ON := fun ds S Q => onL1 (fun i => Q (.int (if i < 0 then -i else i)) S) ds
theorem c_abs : CallA X (.builtin "abs") (fun xs H Q => ∃ i, xs = [.int i] ∧ Q (.int (if i < 0 then -i else i)) H) aAbs := by
  refine ⟨call_abs, fun xs ds H F S R Q P T dvs q po => ?_⟩
  unfold aAbs onL1 at q
  split at q
  · cases dvs with
    | cons h t => cases t; cases h; exact ⟨_, rfl, po _ H F S _ (Same.refl _) T (.int _) q⟩
  · exact (show False from q).elim
def aI2N (C : Int → Int → Prop) (g : Int → Int → D) : ON := fun ds S Q => onL2 (fun i j => C i j ∧ Q (g i j) S) ds
theorem i2N_ok {K : KW} {F : Hp} {xs : List V} {ds : List D} {S : Sto} {C : Int → Int → Prop} {g : Int → Int → D} {Q : KD} (dvs : DvL K F xs ds) (q : aI2N C g ds S Q) : ∃ i j, xs = [.int i, .int j] ∧ C i j ∧ Q (g i j) S := by
  unfold aI2N onL2 at q
  split at q
  · cases dvs with
    | cons h t => cases t with
      | cons h2 t2 => cases t2; cases h; cases h2; exact ⟨_, _, rfl, q⟩
  · exact (show False from q).elim
def aMax : ON := aI2N (fun _ _ => True) fun i j => .int (if j > i then j else i)
def aMin : ON := aI2N (fun _ _ => True) fun i j => .int (if j < i then j else i)
theorem c_max2 (hc : X.calm = true) : CallA X (.builtin "max") (fun xs H Q => ∃ i j, xs = [.int i, .int j] ∧ Q (.int (if j > i then j else i)) H) aMax := by
  refine ⟨call_max2 hc, fun xs ds H F S R Q P T dvs q po => ?_⟩
  obtain ⟨i, j, rfl, _, q⟩ := i2N_ok dvs q
  exact ⟨i, j, rfl, po _ H F S _ (Same.refl _) T (.int _) q⟩
theorem c_min2 (hc : X.calm = true) : CallA X (.builtin "min") (fun xs H Q => ∃ i j, xs = [.int i, .int j] ∧ Q (.int (if j < i then j else i)) H) aMin := by
  refine ⟨call_min2 hc, fun xs ds H F S R Q P T dvs q po => ?_⟩
  obtain ⟨i, j, rfl, _, q⟩ := i2N_ok dvs q
  exact ⟨i, j, rfl, po _ H F S _ (Same.refl _) T (.int _) q⟩
def aDm : ON := aI2N CDivP fun i j => .tup [.int (i / j), .int (i % j)]
theorem c_divmod : CallA X (.builtin "divmod") (fun xs H Q => ∃ i j, xs = [.int i, .int j] ∧ CDivP i j ∧ ∀ p, H p = none → Q (.ref p) (upd H p (.tup [.int (i / j), .int (i % j)]))) aDm := by
  refine ⟨call_divmodW, fun xs ds H F S R Q P T dvs q po => ?_⟩
  obtain ⟨i, j, rfl, hc, q⟩ := i2N_ok dvs q
  exact ⟨i, j, rfl, hc, newT_ok T (.cons (.int _) (.cons (.int _) .nil)) (by rw [sizeLine_eq]; simp) q po⟩
def blsOf : List D → Option (List Bool)
  | [] => some []
  | .bl b :: r => (blsOf r).map (b :: ·)
  | _ :: _ => none
def aAll : ON := fun ds S Q => ∃ d l bs, ds = [d] ∧ asL S d = some l ∧ blsOf l = some bs ∧ Q (.bl (bs.all id)) S
def aAny : ON := fun ds S Q => ∃ d l bs, ds = [d] ∧ asL S d = some l ∧ blsOf l = some bs ∧ Q (.bl (bs.any id)) S
end
end A

/-! ## methods of lists, isinstance, repr, len of an instance, C.m(..) -/
namespace A
open PySem PySem.Spec L2 PyProof.Rows ClX

section
variable {X : Cx} {W : WX} {e o : Expr} {es : List Expr} {to : TE} {ao : AE} {t : TA} {ar : AA} {apos pos p : Pos}
/-! ### methods of lists -/
abbrev OM := D → List D → Sto → KD → Prop
structure MthA (X : Cx) (id : String) (r : V → List V → Hp → VK → Prop) (a : OM) : Prop where
  m : MtR X id r
  k : ∀ x xs d ds H F S R Q P, Sta X.kw F S R H → Dv X.kw F x d → DvL X.kw F xs ds → a d ds S Q → Post X.kw F R Q P → r x xs H P
def aBM (a : OM) (ao : AE) (ar : AA) : AE := fun ρ S Q E => ao ρ S (fun d S1 => (∃ l, asL S1 d = some l) ∧ ar ρ S1 (fun ds S2 => a d ds S2 Q) E) E
def aApp : OM := fun d ds S Q => ∃ a l x, d = .own a ∧ S a = some (.lst l) ∧ ds = [x] ∧ l.length < sizeLine ∧ Q .non (put S a (.lst (l ++ [x])))
def aPopAt : OM := fun d ds S Q => ∃ a l i k y, d = .own a ∧ S a = some (.lst l) ∧ ds = [.int i] ∧ ixN l.length i = some k ∧ l[k]? = some y ∧ Q y (put S a (.lst (l.eraseIdx k)))
def aPop : OM := fun d ds S Q => ∃ a l y, d = .own a ∧ S a = some (.lst l) ∧ ds = [] ∧ l[l.length - 1]? = some y ∧ Q y (put S a (.lst l.dropLast))
theorem DvL.dropLast {K : KW} {F : Hp} : ∀ {vs : List V} {ds : List D}, DvL K F vs ds → DvL K F vs.dropLast ds.dropLast := by
  intro vs ds h
  rw [List.dropLast_eq_take, List.dropLast_eq_take, h.len]
  exact h.take _
def aClear : OM := fun d ds S Q => ∃ a l, d = .own a ∧ S a = some (.lst l) ∧ ds = [] ∧ Q .non (put S a (.lst []))
def aRevM : OM := fun d ds S Q => ∃ a l, d = .own a ∧ S a = some (.lst l) ∧ ds = [] ∧ Q .non (put S a (.lst l.reverse))
def aExt : OM := fun d ds S Q => ∃ a l e m, d = .own a ∧ S a = some (.lst l) ∧ ds = [e] ∧ asL S e = some m ∧ l.length + m.length ≤ sizeLine ∧ Q .non (put S a (.lst (l ++ m)))
/-! ### isinstance -/
def clsD : D → Option Value
  | .ty n => some (.type n)
  | .own C => some (.ref C)
  | _ => none
theorem clsD_ok {K : KW} {F : Hp} {v : V} {d : D} {u : Value} (h : Dv K F v d) (e : clsD d = some u) : ClsV v u := by
  cases h with
  | ty n => cases e; exact .ty n
  | own a => cases e; exact .own a
  | _ => cases e
/-- what isinstance asks of an instance's class -/
structure IsiOk (K : PySem.W.Frag) (C : Addr) : Prop where
  cl : Cls K C
  ca : PySem.W.findIn K (.ref C) "__class__" = some (some (.builtin "object.__class__"))
  cn : PySem.W.specialIn K (.builtin "object.__class__") "__get__" = some (some (.builtin "getset_descriptor.__get__"))
  ct : PySem.W.takesIn K (.builtin "object.__class__") = some true
  cm : PySem.W.mroIn K C (.type "object") = some true
def tyD (S : Sto) : D → Option Value
  | .non => some (.type "NoneType")
  | .bl _ => some (.type "bool")
  | .int _ => some (.type "int")
  | .str _ => some (.type "str")
  | .lst _ => some (.type "list")
  | .tup _ => some (.type "tuple")
  | .own a => match S a with
    | some (.lst _) => some (.type "list")
    | some .pot => some (.type "list")
    | some (.dct _) => some (.type "dict")
    | some (.ins C _) => some (.ref C)
    | _ => none
  | _ => none
/-! ### repr -/
mutual
/-- all numbers in it are below 10 ** 12 -/
def sml : PyData → Bool
  | .none | .bool _ | .str _ => true
  | .int i => decide (i.natAbs < 10 ^ 12)
  | .list l => smlAll l
  | .tuple l => smlAll l
  | .dict _ => false
def smlAll : List PyData → Bool
  | [] => true
  | x :: r => sml x && smlAll r
end
mutual
theorem sml_show : ∀ p : PyData, sml p = true → p.showable = true ∧ p.intsShort 13 = true
  | .none, _ => ⟨rfl, rfl⟩
  | .bool _, _ => ⟨rfl, rfl⟩
  | .str _, _ => ⟨rfl, rfl⟩
  | .int i, h => by
    have h1 : i.natAbs < 10 ^ 12 := by simpa only [sml, decide_eq_true_eq] using h
    refine ⟨?_, by simp only [PyData.intsShort, decide_eq_true_eq]; exact PyData.shown_int_le h1⟩
    simp only [PyData.showable, decide_eq_true_eq]
    have h2 : i.natAbs < 2 ^ 1920 := Nat.lt_of_lt_of_le h1 (by decide +kernel)
    by_cases z : i.natAbs = 0
    · rw [z]; decide
    · exact (Nat.log2_lt z).mpr h2
  | .list l, h => by
    have h1 : smlAll l = true := by simpa only [sml] using h
    simp only [PyData.showable, PyData.intsShort]
    exact smlAll_show l h1
  | .tuple l, h => by
    have h1 : smlAll l = true := by simpa only [sml] using h
    simp only [PyData.showable, PyData.intsShort]
    exact smlAll_show l h1
  | .dict _, h => by simp only [sml] at h; cases h
theorem smlAll_show : ∀ l : List PyData, smlAll l = true → PyData.showableAll l = true ∧ PyData.intsShortAll 13 l = true
  | [], _ => ⟨rfl, rfl⟩
  | x :: r, h => by
    have h1 : sml x = true ∧ smlAll r = true := by simpa only [smlAll, Bool.and_eq_true] using h
    obtain ⟨a1, a2⟩ := sml_show x h1.1
    obtain ⟨b1, b2⟩ := smlAll_show r h1.2
    exact ⟨by simp only [PyData.showableAll, a1, b1, Bool.and_self], by simp only [PyData.intsShortAll, a2, b2, Bool.and_self]⟩
end
def aRepr : ON := fun ds S Q => ∃ d n p, ds = [d] ∧ n ≤ 60 ∧ rd S n d = some p ∧ ((∃ l, p = .list l) ∨ ∃ l, p = .tuple l) ∧ sml p = true ∧ p.weight ≤ 2 ^ 20 ∧ Q (.str p.shown) S
end

/-! ### a def run deeper -/
section
variable {X : Cx} {W : WX} {k : Nat} {f : Addr} {fd : FuncData} {ps : List Str} {sp : Sp}
end

/-! ### len(x), x an instance -/
structure LenF (P : Program) (w : World) (K : PySem.W.Frag) (mg : Str → Option Value) (base : Heap) (C : Addr) (k : Nat) (sp : SpA) : Prop where
  ex : ∃ f fd ps, PySem.W.findIn K (.ref C) "__len__" = some (some (.ref f)) ∧ PySem.W.isFn K (.ref f) = true ∧ Binds K fd ps [] ∧ FnA P w K mg base k f fd ps sp
section
variable {X : Cx} {W : WX} {k : Nat} {sp : SpA}
end

/-! ### C.m(e, ..), C a class of the module: its def, called with all that is written -/
structure CMF (P : Program) (w : World) (K : PySem.W.Frag) (mg : Str → Option Value) (base : Heap) (x m : Str) (k : Nat) (ps : List Str) (dvs : List D) (sp : SpA) : Prop where
  ex : ∃ C mc f fd vs us, mg x = some (.ref C) ∧ CRead K C mc ∧ PySem.W.findCls K (.ref C) mc m = some (.val (.ref f)) ∧ PySem.W.keepIn K (.ref f) = true ∧ Vals vs us ∧ (∀ F, DvL ⟨K, w⟩ F vs dvs) ∧ Binds K fd ps us ∧ FnA P w K mg base k f fd ps sp
section
variable {X : Cx} {W : WX} {k : Nat} {ps : List Str} {sp : SpA} {x m : Str} {p1 p2 pos : Pos} {e : Expr} {es : List Expr} {t : TA} {ar : AA}
end

/-! ### a list of two numbers becomes a pot -/
theorem gh_pot {p : Addr} {x y : Int} {S : Sto} (e : S p = some (.lst [.int x, .int y])) (ok : PotOk x y) : Gh (.own p) S (.own p) (put S p .pot) := fun K F R H v T dv => by
  obtain ⟨hF, z, xs, hx, hxs⟩ := T.own p _ e
  cases hxs with
  | cons h1 t1 =>
    cases t1 with
    | cons h2 t2 =>
      cases t2
      cases h1
      cases h2
      have T2 := T.write (a := p) (o := .lst [V.int x, V.int y]) (c' := .pot) e ⟨x, y, upd_same, ok⟩
      have e2 : upd H p (.lst [V.int x, V.int y]) = H := by
        funext b
        by_cases q : b = p
        · subst q; rw [upd_same, hx]
        · rw [upd_ne q]
      rw [e2] at T2
      exact ⟨F, Same.refl _, T2, dv⟩
end A

/-! ## what the head tells: any checks of the written part -/
namespace A
open PySem PySem.Spec L2 PyProof.Rows He

/-! ### the Hook -/
abbrev Chk := PySem.W.Frag → Bool
/-- the objects that are looked at -/
def asX (g : Addr → Option Obj) : Nat → List Addr
  | 0 => [mainGlobals, cStatics]
  | n + 1 => growD g (asX g n)
def obX (fc : List Chk) (fn : List DefD) (K : PySem.W.Frag) : AlD := ((fc.all fun f => f K) && fn.all fun d => d.ok K, fn.map fun d => fnW K d.at_)
def SaysX (fc : List Chk) (fn : List DefD) (K : PySem.W.Frag) : Prop := obX fc fn K = valD fn
def obXG (n : Nat) (fc : List Chk) (fn : List DefD) (g : Addr → Option Obj) : AlD := obX fc fn (frG g (asX g n))
section
variable {fc : List Chk} {fn : List DefD} {K : PySem.W.Frag}
theorem SaysX.ck (c : SaysX fc fn K) (i : Nat) {f : Chk} (h : fc[i]? = some f := by rfl) : f K = true := by
  have c1 : ((fc.all fun f => f K) && fn.all fun d => d.ok K) = true := congrArg (fun z : AlD => z.1) c
  exact List.all_eq_true.mp (Bool.and_eq_true_iff.mp c1).1 f (List.mem_of_getElem? h)
theorem SaysX.df (c : SaysX fc fn K) (i : Nat) {d : DefD} (h : fn[i]? = some d := by rfl) : ∃ fd, FunD K d.name d.qual d.params d.body d.scope (d.dvs K) (d.kws K) (fAd K d.at_) fd := by
  have c1 : ((fc.all fun f => f K) && fn.all fun d => d.ok K) = true := congrArg (fun z : AlD => z.1) c
  have e : fn.map (fun d => fnW K d.at_) = fn.map DefD.val := congrArg (fun z : AlD => z.2) c
  have e2 : (fn.map fun d => fnW K d.at_)[i]? = (fn.map DefD.val)[i]? := by rw [e]
  rw [List.getElem?_map, List.getElem?_map, h] at e2
  exact DefD.funD (Option.some.inj e2) (List.all_eq_true.mp (Bool.and_eq_true_iff.mp c1).2 d (List.mem_of_getElem? h))
end
/-! ### checks -/
def kGlo (x : Str) : Chk := fun K => (Fa.glo x).ok K
def kFree (x : Str) : Chk := fun K => (Fa.free x).ok K
abbrev DAt := Str × Option Str
def valOf (r : Option PySem.W.CFound) : Option Value := match r with | some (.val v) => some v | _ => none
section
variable {K : PySem.W.Frag} {h : Heap} {mg : Str → Option Value}
end
/-! ### a built-in type as a value -/
section
variable {X : Cx} {W : WX} {pos : Pos}
theorem ea_bty {x : Str} {n : String} (hm : X.mg x = none) (hv : bootBuiltins x = some (.type n) := by decide +kernel) (hg : Gl X x := by rfl) (hn : x ≠ "__name__" := by decide) (hd : (x == ("__debug__" : Str)) = false := by decide) :
    EA X W (.Name x pos) (tC (.ty n)) (aC (.ty n)) := ⟨pe_bltn hg hm hv rfl hn hd, re_c fun _ => .ty n⟩
end
end A

/-! ## small rules; what is promised of methods, classes -/
namespace A
open PySem PySem.Spec L2 PyProof.Rows
section
variable {X : Cx}
abbrev aIAdd : O2 := aI20 fun i j => .int (i + j)
end
theorem wofAny {E : XK} : ∀ {K : KW} {F : Hp} {R : Sto} {σ σ' : St} {E' : KX}, WOk K F R σ (wOf E) E' → WOk K F R σ' (wOf E) E' := fun h cls dd H' F' S' x e T xr q => h cls dd H' F' S' x e T xr q
end A

/-! ## len(set(xs)) of a list of ints -/
namespace A
open PySem PySem.Spec L2 PyProof.Rows
/-- how many unlike ints -/
def unl (ns : List Int) : Nat := (firstMet (fun i => ns.getD i 0) ns.length).length
section
variable {X : Cx} {W : WX} {a : Expr} {ta : TE} {aa : AE} {p p2 q pos : Pos}
def intsOf : List D → Option (List Int)
  | [] => some []
  | .int b :: r => (intsOf r).map (b :: ·)
  | _ :: _ => none
def aLnSt (aa : AE) : AE := fun ρ S Q E => aa ρ S (fun d S1 => ∃ l ns, asL S1 d = some l ∧ intsOf l = some ns ∧ ns.length ≤ 4000 ∧ Q (.int (unl ns)) S1) E
end
end A

namespace A
open PySem PySem.Spec L2 PyProof.Rows
section
variable {S : Sto} {Q : KD} {d e : D} {i j : Int} {b : Bool}
theorem atV_s {P : D → Prop} : atV (some (some d)) P = P d := rfl
theorem onB_b {f : Bool → Sto → Prop} : onB f (.bl b) S = f b S := rfl
theorem onI_i {f : Int → Sto → Prop} : onI f (.int i) S = f i S := rfl
theorem onII_i {f : Int → Int → Prop} : onII f (.int i) (.int j) = f i j := rfl
theorem onL1_i {f : Int → Prop} : onL1 f [.int i] = f i := rfl
theorem onL2_i {f : Int → Int → Prop} : onL2 f [.int i, .int j] = f i j := rfl
section
variable {P : List D → (Sto → Prop) → Sto → Prop} {l : List D} {z : Str} {ns : List Int}
theorem it_l : aItD (.lst l) S P = P l (fun _ => True) S := rfl
theorem it_t : aItD (.tup l) S P = P l (fun _ => True) S := rfl
theorem it_s : aItD (.scr ns) S P = P (ns.map D.int) (fun _ => True) S := rfl
theorem it_x : aItD (.str z) S P = (z.cps.size ≤ sizeLine ∧ P (signs z) (fun _ => True) S) := rfl
end
theorem ix_l {l : List D} : aIx (.lst l) (.int i) S Q = ∃ x, atI l i = some x ∧ Q x S := rfl
theorem ix_t {l : List D} : aIx (.tup l) (.int i) S Q = ∃ x, atI l i = some x ∧ Q x S := rfl
theorem ix_s {l : List Int} : aIx (.scr l) (.int i) S Q = ∃ x, atI l i = some x ∧ Q (.int x) S := rfl
theorem add_i : aAdd (.int i) (.int j) S Q = Q (.int (i + j)) S := rfl
theorem add_x {x y : Str} : aAdd (.str x) (.str y) S Q = (x.length + y.length ≤ sizeLine ∧ Q (.str (x ++ y)) S) := rfl
theorem eq_i {n : Bool} : aEqD n (.int i) (.int j) S Q = Q (.bl (if n then !decide (i = j) else decide (i = j))) S := rfl
theorem eq_x {n : Bool} {x y : Str} : aEqD n (.str x) (.str y) S Q = Q (.bl (if n then !decide (x = y) else decide (x = y))) S := rfl
theorem eq_b {n : Bool} {c : Bool} : aEqD n (.bl b) (.bl c) S Q = Q (.bl (if n then !decide (b = c) else decide (b = c))) S := rfl
theorem is_b {n : Bool} {c : Bool} : aIs n (.bl b) (.bl c) S Q = Q (.bl (if n then !decide (b = c) else decide (b = c))) S := rfl
end
local macro_rules | `(tactic| walk_at "A.go") => `(tactic| simp only [aSeq, aNext, aSet, aVar, atV_s, onB_b, onI_i, onII_i, onL1_i, onL2_i, it_l, it_t, it_s, it_x, ix_l, ix_t, ix_s, add_i, add_x, eq_i, eq_x, eq_b, is_b, aC, aNil, aCons, aOp, aUn, aTup, aLst, aCB, aNot, aAnd, aOr, aTst, aIfE, aAndV, aOrV, aNotV, aChn, aDrop, aRet, aRetN, aIf, agName, agNil, agCons, agTup, aAsg, aPar, aAug, aFor, aRng1, aRng2, aIter, aLc, aYes,
  aCl, aMt, aMk, aFl, aFst, aNeg, aI2, aI20, aLe, aLt, aGt, aGe, aSub, aMod, aMul, aFdv, aPow, aXor, aShl, aShr, agSub, aoN, aoS, aSl, aRev, aLen, aList, aTupOf, aLRg1, aLRg2, aAbs, aI2N, aMax, aMin, aDm, aAll, aAny, aBM, aApp, aPopAt, aPop, aClear, aRevM, aExt, aRepr, aClD, aLnSt, aIAdd, aBreak, aCont,
  aEnd, startA, List.map_cons, List.map_nil, List.cons_append, List.nil_append, List.length_cons, List.length_nil, List.replicate, List.getElem?_cons_zero, List.getElem?_cons_succ, List.set_cons_zero, List.set_cons_succ, Nat.reduceAdd, Nat.reduceSub, Nat.succ_eq_add_one, Int.reduceAdd, Int.reduceMul,
  reduceIte, Bool.false_eq_true, Bool.not_true, Bool.not_false, ite_true, ite_false])
theorem asL_inv {S : Sto} {a : Addr} {l : List D} (h : asL S (.own a) = some l) : S a = some (.lst l) := by
  have h' : (match S a with | some (.lst l) => some l | _ => none) = some l := h
  split at h'
  · rename_i m e; cases h'; exact e
  · cases h'
theorem ix_asL {S : Sto} {d x : D} {l : List D} {i : Int} {Q : KD} (h : asL S d = some l) (e : atI l i = some x) (q : Q x S) : aIx d (.int i) S Q := by
  cases d with
  | lst m => cases h; exact ⟨x, e, q⟩
  | own a =>
    unfold aIx
    simp only [asL_inv h]
    exact ⟨x, e, q⟩
  | _ => cases h
theorem ix_pot {S : Sto} {a : Addr} {i : Int} {Q : KD} (h : S a = some .pot) (q : ∀ x y, PotOk x y → ∃ z, atI [x, y] i = some z ∧ Q (.int z) S) : aIx (.own a) (.int i) S Q := by
  unfold aIx
  simp only [h]
  exact q
theorem put_pot0 {S : Sto} {a : Addr} {n : Int} {Q : Sto → Prop} (h : S a = some .pot) (n0 : 0 ≤ n) (n1 : n.natAbs.log2 < 2 ^ 20 + 64) (q : Q S) : aPut (.own a) (.int 0) (.int n) S Q := by
  unfold aPut
  simp only [h]
  exact ⟨n, rfl, .inl ⟨trivial, n0, n1⟩, q⟩
theorem put_pot1 {S : Sto} {a : Addr} {n : Int} {Q : Sto → Prop} (h : S a = some .pot) (n0 : 0 ≤ n) (n1 : n < 2147483648) (q : Q S) : aPut (.own a) (.int 1) (.int n) S Q := by
  unfold aPut
  simp only [h]
  exact ⟨n, rfl, .inr ⟨trivial, n0, n1⟩, q⟩
end A

/-! ## loops by invariants; data of ints -/
namespace A
open PySem PySem.Spec L2 PyProof.Rows
local macro_rules | `(tactic| walk_at "A.go") => `(tactic| simp only [aSeq, aNext, aSet, aVar, atV_s, onB_b, onI_i, onII_i, onL1_i, onL2_i, it_l, it_t, it_s, it_x, ix_l, ix_t, ix_s, add_i, add_x, eq_i, eq_x, eq_b, is_b, aC, aNil, aCons, aOp, aUn, aTup, aLst, aCB, aNot, aAnd, aOr, aTst, aIfE, aAndV, aOrV, aNotV, aChn, aDrop, aRet, aRetN, aIf, agName, agNil, agCons, agTup, aAsg, aPar, aAug, aFor, aRng1, aRng2, aIter, aLc, aYes,
  aCl, aMt, aMk, aFl, aFst, aNeg, aI2, aI20, aLe, aLt, aGt, aGe, aSub, aMod, aMul, aFdv, aPow, aXor, aShl, aShr, agSub, aoN, aoS, aSl, aRev, aLen, aList, aTupOf, aLRg1, aLRg2, aAbs, aI2N, aMax, aMin, aDm, aAll, aAny, aBM, aApp, aPopAt, aPop, aClear, aRevM, aExt, aRepr, aClD, aLnSt, aIAdd, aBreak, aCont,
  aEnd, startA, List.map_cons, List.map_nil, List.cons_append, List.nil_append, List.length_cons, List.length_nil, List.replicate, List.getElem?_cons_zero, List.getElem?_cons_succ, List.set_cons_zero, List.set_cons_succ, Nat.reduceAdd, Nat.reduceSub, Nat.succ_eq_add_one, Int.reduceAdd, Int.reduceMul,
  reduceIte, Bool.false_eq_true, Bool.not_true, Bool.not_false, ite_true, ite_false])

theorem aLoop_inv {g : AG} {b : AS} {E : AEnds} {G : Sto → Prop} {ds : List D} (I : Nat → En → Sto → Prop)
    (step : ∀ i d ρ S (nx : En → Sto → Prop), ds[i]? = some d → I i ρ S → (∀ ρ' S', I (i + 1) ρ' S' → nx ρ' S') → G S ∧ g d ρ S (fun ρ1 S1 => b { E with nx := nx, ct := nx, bk := E.nx } ρ1 S1) (E.xx ρ))
    (last : ∀ ρ S, I ds.length ρ S → G S ∧ E.nx ρ S) : ∀ {ρ : En} {S : Sto}, I 0 ρ S → aLoop g b E G ds ρ S := by
  have main : ∀ (k i : Nat), i + k = ds.length → ∀ ρ S, I i ρ S → aLoop g b E G (ds.drop i) ρ S := by
    intro k
    induction k with
    | zero =>
      intro i hi ρ S h
      have e : i = ds.length := by omega
      subst e
      rw [List.drop_length]
      exact last ρ S h
    | succ k ih =>
      intro i hi ρ S h
      have lt : i < ds.length := by omega
      rw [List.drop_eq_getElem_cons lt]
      exact step i ds[i] ρ S _ (List.getElem?_eq_getElem lt) h fun ρ' S' h' => ih (i + 1) (by omega) ρ' S' h'
  intro ρ S h
  exact main ds.length 0 (by omega) ρ S h
theorem aLcL_inv {g : AG} {tt : AT} {e : AE} {G : Sto → Prop} {ρ0 : En} {Q : KD} {ds : List D} (I : Nat → List D → Sto → Prop)
    (step : ∀ i d acc S (k : List D → Sto → Prop), ds[i]? = some d → I i acc S → (∀ acc' S', I (i + 1) acc' S' → k acc' S') →
      G S ∧ g d ρ0 S (fun ρ2 S2 => tt ρ2 S2 (fun b S3 => if b = true then e ρ2 S3 (fun v S4 => k (acc ++ [v]) S4) noX else k acc S3) noX) noX)
    (last : ∀ acc S, I ds.length acc S → G S ∧ NewL acc S Q) : ∀ {S : Sto}, I 0 [] S → aLcL g tt e G ρ0 Q ds [] S := by
  have main : ∀ (k i : Nat), i + k = ds.length → ∀ acc S, I i acc S → aLcL g tt e G ρ0 Q (ds.drop i) acc S := by
    intro k
    induction k with
    | zero =>
      intro i hi acc S h
      have z : i = ds.length := by omega
      subst z
      rw [List.drop_length]
      exact last acc S h
    | succ k ih =>
      intro i hi acc S h
      have lt : i < ds.length := by omega
      rw [List.drop_eq_getElem_cons lt]
      exact step i ds[i] acc S (fun acc' S' => aLcL g tt e G ρ0 Q (ds.drop (i + 1)) acc' S') (List.getElem?_eq_getElem lt) h fun acc' S' h' => ih (i + 1) (by omega) acc' S' h'
  intro S h
  exact main ds.length 0 (by omega) [] S h
/-! ### other views of several values -/
theorem ret_gh {Q : KD} {d d' : D} {S S' : Sto} (h : Gh d S d' S') (q : Q d' S') : Ret Q d S := ⟨d', S', h, q⟩
theorem sub_del {S : Sto} {a : Addr} {c : Cell} (h : S a = none) : Sub S (put S a c) := (Sub.refl S).put h
/-! ### ints -/
theorem rd_ints {S : Sto} {n : Nat} (l : List Int) : rd S (n + 2) (.lst (l.map D.int)) = some (.list (l.map PyData.int)) := by
  show (rdL (rd S (n + 1)) (l.map D.int)).map PyData.list = _
  rw [rdL_map (f := rd S (n + 1)) (g := D.int) (h := PyData.int) fun _ => rfl]
  rfl
theorem rd_own {S : Sto} {n : Nat} {a : Addr} {l : List D} (h : S a = some (.lst l)) : rd S (n + 1) (.own a) = rd S (n + 1) (.lst l) := by
  show (match S a with | some (.lst l) => (rdL (rd S n) l).map PyData.list | _ => none) = _
  rw [h]
  rfl
theorem eqv_ints : ∀ l m : List Int, PyData.eqvAll (l.map PyData.int) (m.map PyData.int) = decide (l = m)
  | [], [] => rfl
  | [], _ :: _ => rfl
  | _ :: _, [] => rfl
  | a :: l, b :: m => by
    simp only [List.map_cons, PyData.eqvAll, PyData.eqv, eqv_ints l m]
    by_cases h : a = b
    · subst h; simp
    · simp [h]
theorem eqv_listInts (l m : List Int) : PyData.eqv (.list (l.map PyData.int)) (.list (m.map PyData.int)) = decide (l = m) := by
  simp only [PyData.eqv]
  exact eqv_ints l m
theorem cdivp {i j : Int} (h : 0 < j) (k : j.natAbs.log2 < 9000) : CDivP i j := ⟨h, PyProof.noPylong_of_log2 k⟩
theorem log2_small {n k : Nat} (h : n < 2 ^ k) (hk : 0 < k) : n.log2 < k := by
  by_cases z : n = 0
  · subst z; simpa using hk
  · exact (Nat.log2_lt z).mpr h
theorem log2_le {m n k : Nat} (h : m ≤ n) (hn : n.log2 < k) : m.log2 < k := by
  by_cases z : m = 0
  · subst z; exact Nat.lt_of_le_of_lt (by simp) hn
  · exact (Nat.log2_lt z).mpr (Nat.lt_of_le_of_lt h ((Nat.log2_lt (by omega)).mp hn))
def rng (n : Nat) : List Int := (List.range n).map fun (i : Nat) => (i : Int)
theorem rngD0 (n : Nat) : rngD 0 n = (rng n).map D.int := by
  unfold rngD rng
  rw [List.map_map]
  refine List.map_congr_left fun i _ => ?_
  simp
theorem rng_length {n : Nat} : (rng n).length = n := by unfold rng; simp
theorem mem_rng {n : Nat} {i : Int} : i ∈ rng n ↔ 0 ≤ i ∧ i < n := by
  unfold rng
  rw [List.mem_map]
  constructor
  · rintro ⟨k, hk, rfl⟩
    rw [List.mem_range] at hk
    omega
  · rintro ⟨h1, h2⟩
    exact ⟨i.toNat, List.mem_range.mpr (by omega), by omega⟩
theorem rng_nodup {n : Nat} : (rng n).Nodup := by
  unfold rng
  refine List.Pairwise.map _ (fun a b h => ?_) List.nodup_range
  intro z
  exact h (by omega)
end A

/-! ## a law's end -/
namespace A
open PySem PySem.Spec L2 PyProof.Rows
local macro_rules | `(tactic| walk_at "A.go") => `(tactic| simp only [aSeq, aNext, aSet, aVar, atV_s, onB_b, onI_i, onII_i, onL1_i, onL2_i, it_l, it_t, it_s, it_x, ix_l, ix_t, ix_s, add_i, add_x, eq_i, eq_x, eq_b, is_b, aC, aNil, aCons, aOp, aUn, aTup, aLst, aCB, aNot, aAnd, aOr, aTst, aIfE, aAndV, aOrV, aNotV, aChn, aDrop, aRet, aRetN, aIf, agName, agNil, agCons, agTup, aAsg, aPar, aAug, aFor, aRng1, aRng2, aIter, aLc, aYes,
  aCl, aMt, aMk, aFl, aFst, aNeg, aI2, aI20, aLe, aLt, aGt, aGe, aSub, aMod, aMul, aFdv, aPow, aXor, aShl, aShr, agSub, aoN, aoS, aSl, aRev, aLen, aList, aTupOf, aLRg1, aLRg2, aAbs, aI2N, aMax, aMin, aDm, aAll, aAny, aBM, aApp, aPopAt, aPop, aClear, aRevM, aExt, aRepr, aClD, aLnSt, aIAdd, aBreak, aCont,
  aEnd, startA, List.map_cons, List.map_nil, List.cons_append, List.nil_append, List.length_cons, List.length_nil, List.replicate, List.getElem?_cons_zero, List.getElem?_cons_succ, List.set_cons_zero, List.set_cons_succ, Nat.reduceAdd, Nat.reduceSub, Nat.succ_eq_add_one, Int.reduceAdd, Int.reduceMul,
  reduceIte, Bool.false_eq_true, Bool.not_true, Bool.not_false, ite_true, ite_false])

/-- the numbers of a script are not too wide -/
def Bits (ns : List Int) : Prop := ∀ n ∈ ns, n.natAbs.log2 < 2 ^ 20 + 64
def noS : Sto := fun _ => none
section
variable {P : Program} {w : World} {K : PySem.W.Frag} {mg mb : Str → Option Value} {k : Nat} {g a : Addr} {fd : FuncData} {x : Str} {sp : SpA} {z : Shared} {us : List Value} {ns : List Int}
theorem only_dict {H : Hp} (oa : ∀ b, H b ≠ none → b = a) (ga : z.heap.get? a = some { cls := .type "list", data := .seq us.toArray }) {b : Addr} {m : Str → Option Value} (q : z.heap.Ns b m) : (hidT z.heap H).Ns b m := by
  obtain ⟨o, es, ep, e1, e2, e3⟩ := q
  refine ⟨o, es, ep, hidT_get e1 ?_, e2, e3⟩
  cases hb : H b with
  | none => rfl
  | some u =>
    have := oa b (by rw [hb]; exact nofun)
    subst this
    rw [ga] at e1
    cases e1
    cases (show Data.seq us.toArray _ = Data.dict es ep from e2)
/-- the law's def at the script, H telling no more than the script -/
theorem end_core (KX : K.In z.heap) (hg : z.heap.Ns mainGlobals mg) (hb : z.heap.Ns builtinsNs mb) (hbb : ∀ x : Str, x ≠ "__name__" → mb x = bootBuiltins x) (nl : z.heap.NoLimit) (gz : z.gens = #[])
    (ga : z.heap.get? a = some { cls := .type "list", data := .seq us.toArray }) (hl : ns.length ≤ sizeLine) (hr : Room k callerA)
    (F : ∀ base : Heap, K.In base → base.Ns mainGlobals mg → FnA P w K mg base k g fd [x] sp) (bi : ∀ (s : Shared) (u : Value), BindsTo s fd ⟨[u], []⟩ [(x, u)])
    (q : sp [.scr ns] noS (fun d _ => d = .bl true) noX) {H : Hp} (hO : Only H) (hS : SqL K H a (ns.map V.int)) (ok : HOk P w H z.heap) (oa : ∀ b, H b ≠ none → b = a) (ka : H a ≠ none → K.lookup a = none) :
    codeAny (model P w) callerA (.call (.ref g) ⟨[.ref a], []⟩) (fun r t => r = .ok (.ret (.bool true)) ∧ OldK z.heap t.heap ∧ t.os = z.os ∧ AllBare t.gens) z := by
  have hK : K.In (hidT z.heap H) := fun b o e => by
    refine hidT_get (KX b o e) ?_
    cases hb : H b with
    | none => rfl
    | some u =>
      have := oa b (by rw [hb]; exact nofun)
      subst this
      rw [ka (by rw [hb]; exact nofun)] at e
      cases e
  have gG := only_dict oa ga hg
  have md : Mod K mg (hidT z.heap H) := ⟨hK, gG, ⟨mb, only_dict oa ga hb, hbb⟩, by
    obtain ⟨mc, h1, h2⟩ := nl
    exact ⟨mc, only_dict oa ga h1, h2⟩⟩
  have en : Env0 P w K mg (hidT z.heap H) callerA [] z H := ⟨rfl, md, fun _ _ h => of_hidT h, Nat.le_of_eq (hidT_size _ _), trivial, fun _ h => (List.not_mem_nil h).elim, ok, .of_eq gz⟩
  have st : Sta ⟨K, w⟩ H noS noS H := ⟨Same.refl _, (fun _ _ h => by cases h), (fun _ _ h => by cases h)⟩
  have sq : csp ⟨K, w⟩ sp [.ref a] H (fun v _ => v = .bl true) (fun _ _ _ => False) :=
    ⟨[.scr ns], H, noS, noS, _, noX, .cons (.scr hS hl) .nil, st, q, fun v H' F' S' d _ _ dv e => by subst e; cases dv; rfl, fun _ _ _ _ _ _ _ _ _ h => h.elim⟩
  refine codeAny_mono ((F _ hK gG).g.run callerA [] z H ⟨[.ref a], []⟩ [.ref a] [.ref a] _ _ ⟨hr, rfl⟩ en (bi z (.ref a)) (show Vals [V.ref a] [Value.ref a] from .cons rfl .nil) sq) fun r t h => ?_
  match r, h with
  | .error e, h =>
    obtain ⟨_, _, _, _, _, _, _, _, _, _, _, _, no⟩ := h
    exact no.elim
  | .ok .next, h => exact False.elim h
  | .ok .brk, h => exact False.elim h
  | .ok .cont, h => exact False.elim h
  | .ok (.ret u), h =>
    obtain ⟨v, H1, ho, hbare, un, ok1, ru, rfl⟩ := h
    obtain rfl : u = Value.bool true := ru
    refine ⟨rfl, OldK.of_keep fun b o hbo => ?_, ho, hbare⟩
    rcases hO b with n | ⟨ob, xs, f⟩
    · exact un.keep b o hbo n (fun h => (List.not_mem_nil h).elim) (by simp)
    · obtain ⟨h1, _⟩ := ok b _ f
      obtain ⟨h2, _⟩ := ok1 b _ (un.frzs b ob _ f)
      rw [hbo] at h1
      cases h1
      exact h2
theorem law_callG (KX : K.In z.heap) (hg : z.heap.Ns mainGlobals mg) (hb : z.heap.Ns builtinsNs mb) (hbb : ∀ x : Str, x ≠ "__name__" → mb x = bootBuiltins x) (nl : z.heap.NoLimit) (gz : z.gens = #[])
    (ga : z.heap.get? a = some { cls := .type "list", data := .seq us.toArray }) (hi : IntsAre us ns) (hl : ns.length ≤ sizeLine) (hr : Room k callerA)
    (F : ∀ base : Heap, K.In base → base.Ns mainGlobals mg → FnA P w K mg base k g fd [x] sp) (bi : ∀ (s : Shared) (u : Value), BindsTo s fd ⟨[u], []⟩ [(x, u)])
    (q : sp [.scr ns] noS (fun d _ => d = .bl true) noX) :
    codeAny (model P w) callerA (.call (.ref g) ⟨[.ref a], []⟩) (fun r t => r = .ok (.ret (.bool true)) ∧ OldK z.heap t.heap ∧ t.os = z.os ∧ AllBare t.gens) z := by
  have rv := vals_ints hi
  have core := @end_core P w K mg mb k g a fd x sp z us ns KX hg hb hbb nl gz ga hl hr F bi q
  cases lk : K.lookup a with
  | some o =>
    have h1 := KX a o lk
    rw [ga] at h1
    cases h1
    exact core (H := fun _ => none) (fun _ => .inl rfl) (.inr ⟨_, us.toArray, _, lk, rfl, rfl, rfl, by rw [List.size_toArray, hi.length]; exact hl, by simpa using rv⟩) (fun _ _ h => by cases h) (fun _ h => (h rfl).elim) fun h => (h rfl).elim
  | none =>
    have yes : (fun b => if b = a then some (HO.frz { cls := .type "list", data := .seq us.toArray } (.lst (ns.map V.int))) else none) a = some (.frz { cls := .type "list", data := .seq us.toArray } (.lst (ns.map V.int))) := if_pos rfl
    refine core (H := fun b => if b = a then some (.frz { cls := .type "list", data := .seq us.toArray } (.lst (ns.map V.int))) else none) (fun b => ?_) (.inl (.inr ⟨_, yes⟩)) (fun b u h => ?_) (fun b h => ?_) fun _ => lk
    · by_cases e : b = a
      · exact .inr ⟨{ cls := .type "list", data := .seq us.toArray }, ns.map V.int, by rw [e]; exact yes⟩
      · exact .inl (if_neg e)
    · by_cases e : b = a
      · subst e
        have h2 := yes.symm.trans h
        cases h2
        exact ⟨ga, by rw [List.length_map]; exact hl, us, _, rv, ga⟩
      · have h2 := (if_neg e).symm.trans h
        cases h2
    · by_cases e : b = a
      · exact e
      · exact (h (if_neg e)).elim
end
/-- a law: the written part, the function object, the promise over every base -/
theorem walk_G {l : PySem.W.OpenLaw} {n k : Nat} {q : Program} {loose : List Str} {XP : (Str → Option Value) → Heap → Prop} {YP : World → Heap → Prop} {d : DefRec} {x : Str}
    (hn : l.most = some n) (hn2 : n ≤ sizeLine) (hdf : d.params.defaults = []) (hr : Room k callerA)
    (F : ∀ (w : World) (mg : Str → Option Value) (g : Addr) (h : Heap), YP w h → h.Ns mainGlobals mg → mg d.name = some (.ref g) → ∃ (K : PySem.W.Frag) (fd : FuncData) (sp : SpA), K.In h ∧ (∀ (s : Shared) (u : Value), BindsTo s fd ⟨[u], []⟩ [(x, u)]) ∧
      (∀ ns : List Int, ns.length ≤ n → Bits ns → sp [.scr ns] noS (fun d _ => d = .bl true) noX) ∧ ∀ base : Heap, K.In base → base.Ns mainGlobals mg → FnA l.prog w K mg base k g fd [x] sp) :
    PySem.W.WalkO q loose XP YP l.row.toRowW d [] (fun f vs => PySem.call f vs) := by
  refine Att.attach_callB hn hdf fun w s0 z mg mb g o pm cd doc a us ns G Y h1 h2 h3 h4 ga hi hlen hbits gz => ?_
  obtain ⟨K, fd, sp, KX, bi, hsp, hF⟩ := F w mg g _ Y G.T.g h4
  refine law_callG KX G.T.g G.T.b G.T.builtins G.T.nolimit gz ga hi (Nat.le_trans hlen hn2) hr hF bi (hsp ns hlen fun i hi => ?_)
  have hb := hbits i hi
  unfold Builtin.Int.intBits at hb
  split at hb
  · rename_i e
    have : i = 0 := by simpa using e
    subst this
    rw [show (0 : Int).natAbs.log2 = 0 by decide]
    exact Nat.succ_pos _
  · have e : (2 : Nat) ^ 20 = 1048576 := by decide
    rw [e]
    omega
end A

/-! ## dicts -/
namespace A
open PySem PySem.Spec L2 PyProof.Rows
local macro_rules | `(tactic| walk_at "A.go") => `(tactic| simp only [aSeq, aNext, aSet, aVar, atV_s, onB_b, onI_i, onII_i, onL1_i, onL2_i, it_l, it_t, it_s, it_x, ix_l, ix_t, ix_s, add_i, add_x, eq_i, eq_x, eq_b, is_b, aC, aNil, aCons, aOp, aUn, aTup, aLst, aCB, aNot, aAnd, aOr, aTst, aIfE, aAndV, aOrV, aNotV, aChn, aDrop, aRet, aRetN, aIf, agName, agNil, agCons, agTup, aAsg, aPar, aAug, aFor, aRng1, aRng2, aIter, aLc, aYes,
  aCl, aMt, aMk, aFl, aFst, aNeg, aI2, aI20, aLe, aLt, aGt, aGe, aSub, aMod, aMul, aFdv, aPow, aXor, aShl, aShr, agSub, aoN, aoS, aSl, aRev, aLen, aList, aTupOf, aLRg1, aLRg2, aAbs, aI2N, aMax, aMin, aDm, aAll, aAny, aBM, aApp, aPopAt, aPop, aClear, aRevM, aExt, aRepr, aClD, aLnSt, aIAdd, aBreak, aCont,
  aEnd, startA, List.map_cons, List.map_nil, List.cons_append, List.nil_append, List.length_cons, List.length_nil, List.replicate, List.getElem?_cons_zero, List.getElem?_cons_succ, List.set_cons_zero, List.set_cons_succ, Nat.reduceAdd, Nat.reduceSub, Nat.succ_eq_add_one, Int.reduceAdd, Int.reduceMul,
  reduceIte, Bool.false_eq_true, Bool.not_true, Bool.not_false, ite_true, ite_false])
def valA (m : List (Key × D)) (k : Key) : Option D := (m.find? fun p => decide (p.1 = k)).map (·.2)
def putKA (m : List (Key × D)) (k : Key) (d : D) : List (Key × D) := if (m.any fun p => decide (p.1 = k)) = true then m.map (fun p => if p.1 = k then (p.1, d) else p) else m ++ [(k, d)]
section
variable {K : KW} {F H : Hp} {S R : Sto}
theorem DvP.val {k : Key} : ∀ {l : List (Key × V)} {m : List (Key × D)}, DvP K F l m → (valA m k = Option.none ∧ valV l k = Option.none) ∨ ∃ d v, valA m k = Option.some d ∧ valV l k = Option.some v ∧ Dv K F v d
  | _, _, .nil => .inl ⟨rfl, rfl⟩
  | (k1, v) :: l, (k2, d) :: m, .cons h t => by
    have e : k1 = k2 := h.1
    subst e
    unfold valA valV
    rw [List.find?_cons, List.find?_cons]
    by_cases q : k1 = k
    · simp only [q, decide_true]
      exact .inr ⟨d, v, rfl, rfl, h.2⟩
    · simp only [q, decide_false]
      exact DvP.val t
theorem DvP.any {k : Key} : ∀ {l : List (Key × V)} {m : List (Key × D)}, DvP K F l m → (l.any fun p => decide (p.1 = k)) = m.any fun p => decide (p.1 = k)
  | _, _, .nil => rfl
  | (k1, v) :: l, (k2, d) :: m, .cons h t => by
    have e : k1 = k2 := h.1
    subst e
    rw [List.any_cons, List.any_cons, DvP.any t]
theorem DvP.len {κ : Type} : ∀ {l : List (κ × V)} {m : List (κ × D)}, DvP K F l m → l.length = m.length
  | _, _, .nil => rfl
  | _, _, .cons _ t => congrArg Nat.succ (DvP.len t)
def keyD : D → Option Key
  | .int i => some (.inl i)
  | .str x => some (.inr x)
  | _ => none
def dKey : Key → D
  | .inl i => .int i
  | .inr x => .str x
/-- one's own dict -/
def dctOf (S : Sto) : D → Option (List (Key × D))
  | .own a => match S a with | some (.dct m) => some m | _ => none
  | _ => none
theorem dctOf_own {a : Addr} {m : List (Key × D)} (h : S a = some (.dct m)) : dctOf S (.own a) = some m := by
  unfold dctOf
  simp only [h]
end
section
variable {X : Cx} {W : WX} {o i e : Expr} {to ti te : TE} {ao ai ae : AE} {pos pos' : Pos} {t : TA} {ar : AA}
/-- {} -/
def aDNew : AE := fun _ S Q _ => ∀ a, S a = none → Q (.own a) (put S a (.dct []))
/-- d[k] -/
def aDIx (ao ai : AE) : AE := fun ρ S Q E => ao ρ S (fun d S1 => ai ρ S1 (fun e S2 => ∃ m k x, dctOf S2 d = some m ∧ keyD e = some k ∧ valA m k = some x ∧ Q x S2) E) E
/-- k in d -/
def aDIn (neg : Bool) (ai ao : AE) : AE := fun ρ S Q E => ai ρ S (fun e S1 => ao ρ S1 (fun d S2 => ∃ m k, dctOf S2 d = some m ∧ keyD e = some k ∧ Q (.bl (if neg then !(valA m k).isSome else (valA m k).isSome)) S2) E) E
/-- d[k] = v -/
def aDPut (ao ai av : AE) : AS := fun D ρ S => av ρ S (fun v S1 => ao ρ S1 (fun d S2 => ai ρ S2 (fun e S3 => ∃ a m k, d = .own a ∧ S3 a = some (.dct m) ∧ keyD e = some k ∧ m.length < sizeLine ∧ D.nx ρ (put S3 a (.dct (putKA m k v)))) (D.xx ρ)) (D.xx ρ)) (D.xx ρ)
def aLenD : ON := fun ds S Q => ∃ d m, ds = [d] ∧ dctOf S d = some m ∧ Q (.int (m.length : Nat)) S
def aListD : ON := fun ds S Q => ∃ d m, ds = [d] ∧ dctOf S d = some m ∧ NewL (m.map fun p => dKey p.1) S Q
/-- x.bit_length() -/
def aBits (ao : AE) : AE := fun ρ S Q E => ao ρ S (onI fun i S1 => Q (.int (Builtin.Int.intBits i : Nat)) S1) E
/-- {k: c}, both written constants -/
def aDsp1 (k : Key) (d : D) : AE := fun _ S Q _ => ∀ a, S a = none → Q (.own a) (put S a (.dct [(k, d)]))
end
end A

/-! ## more built-in functions -/
namespace A
open PySem PySem.Spec L2 PyProof.Rows
local macro_rules | `(tactic| walk_at "A.go") => `(tactic| simp only [aSeq, aNext, aSet, aVar, atV_s, onB_b, onI_i, onII_i, onL1_i, onL2_i, it_l, it_t, it_s, it_x, ix_l, ix_t, ix_s, add_i, add_x, eq_i, eq_x, eq_b, is_b, aC, aNil, aCons, aOp, aUn, aTup, aLst, aCB, aNot, aAnd, aOr, aTst, aIfE, aAndV, aOrV, aNotV, aChn, aDrop, aRet, aRetN, aIf, agName, agNil, agCons, agTup, aAsg, aPar, aAug, aFor, aRng1, aRng2, aIter, aLc, aYes,
  aCl, aMt, aMk, aFl, aFst, aNeg, aI2, aI20, aLe, aLt, aGt, aGe, aSub, aMod, aMul, aFdv, aPow, aXor, aShl, aShr, agSub, aoN, aoS, aSl, aRev, aLen, aList, aTupOf, aLRg1, aLRg2, aAbs, aI2N, aMax, aMin, aDm, aAll, aAny, aBM, aApp, aPopAt, aPop, aClear, aRevM, aExt, aRepr, aClD, aLnSt, aIAdd, aBreak, aCont,
  aEnd, startA, List.map_cons, List.map_nil, List.cons_append, List.nil_append, List.length_cons, List.length_nil, List.replicate, List.getElem?_cons_zero, List.getElem?_cons_succ, List.set_cons_zero, List.set_cons_succ, Nat.reduceAdd, Nat.reduceSub, Nat.succ_eq_add_one, Int.reduceAdd, Int.reduceMul,
  reduceIte, Bool.false_eq_true, Bool.not_true, Bool.not_false, ite_true, ite_false])
section
variable {X : Cx}
/-- int(x) of an int or a truth -/
def aInt : ON := fun ds S Q => (∃ i, ds = [.int i] ∧ Q (.int i) S) ∨ ∃ b, ds = [.bl b] ∧ Q (.int (if b then 1 else 0)) S
/-- str(i) -/
def aStrI : ON := fun ds S Q => ∃ i, ds = [.int i] ∧ i.natAbs.log2 < 1920 ∧ Q (.str (toString i)) S
/-- sum(xs) of ints -/
def aSum : ON := fun ds S Q => ∃ d l ns, ds = [d] ∧ asL S d = some l ∧ intsOf l = some ns ∧ Q (.int ns.sum) S
/-- sorted(xs) of ints -/
def aSorted : ON := fun ds S Q => ∃ d l ns, ds = [d] ∧ asL S d = some l ∧ intsOf l = some ns ∧ l.length ≤ sizeLine ∧ ∀ ns' : List Int, ns'.Perm ns → ns'.Pairwise (· ≤ ·) → NewL (ns'.map .int) S Q
/-- bool(x) -/
def aBool : ON := fun ds S Q => (∃ i, ds = [.int i] ∧ Q (.bl (i != 0)) S) ∨ ∃ b, ds = [.bl b] ∧ Q (.bl b) S
end
end A

/-! ## x == y by an own __eq__ -/
namespace A
open PySem PySem.Spec L2 PyProof.Rows
local macro_rules | `(tactic| walk_at "A.go") => `(tactic| simp only [aSeq, aNext, aSet, aVar, atV_s, onB_b, onI_i, onII_i, onL1_i, onL2_i, it_l, it_t, it_s, it_x, ix_l, ix_t, ix_s, add_i, add_x, eq_i, eq_x, eq_b, is_b, aC, aNil, aCons, aOp, aUn, aTup, aLst, aCB, aNot, aAnd, aOr, aTst, aIfE, aAndV, aOrV, aNotV, aChn, aDrop, aRet, aRetN, aIf, agName, agNil, agCons, agTup, aAsg, aPar, aAug, aFor, aRng1, aRng2, aIter, aLc, aYes,
  aCl, aMt, aMk, aFl, aFst, aNeg, aI2, aI20, aLe, aLt, aGt, aGe, aSub, aMod, aMul, aFdv, aPow, aXor, aShl, aShr, agSub, aoN, aoS, aSl, aRev, aLen, aList, aTupOf, aLRg1, aLRg2, aAbs, aI2N, aMax, aMin, aDm, aAll, aAny, aBM, aApp, aPopAt, aPop, aClear, aRevM, aExt, aRepr, aClD, aLnSt, aIAdd, aBreak, aCont,
  aEnd, startA, List.map_cons, List.map_nil, List.cons_append, List.nil_append, List.length_cons, List.length_nil, List.replicate, List.getElem?_cons_zero, List.getElem?_cons_succ, List.set_cons_zero, List.set_cons_succ, Nat.reduceAdd, Nat.reduceSub, Nat.succ_eq_add_one, Int.reduceAdd, Int.reduceMul,
  reduceIte, Bool.false_eq_true, Bool.not_true, Bool.not_false, ite_true, ite_false])
structure EqF (P : Program) (w : World) (K : PySem.W.Frag) (mg : Str → Option Value) (base : Heap) (C : Addr) (k : Nat) (sp : SpA) : Prop where
  ex : ∃ f fd ps, PySem.W.findIn K (.ref C) "__eq__" = some (some (.ref f)) ∧ PySem.W.isFn K (.ref f) = true ∧ Binds K fd ps [] ∧ FnA P w K mg base k f fd ps sp
section
variable {X : Cx} {W : WX} {k : Nat} {sp : SpA}
def aEqO (K : PySem.W.Frag) (ok okT : Addr → Prop) (sp : SpA) : O2 := fun d e S Q => ∃ C fs t, insOf S d = some (C, fs) ∧ ok C ∧ tyD S e = some t ∧ (∀ C, t = .ref C → okT C) ∧ PySem.W.notFirst K C t = true ∧ sp [d, e] S (Ret Q) noX
end
end A

/-! ## x != y by an own __eq__ and object's __ne__ -/
namespace A
open PySem PySem.Spec L2 PyProof.Rows
local macro_rules | `(tactic| walk_at "A.go") => `(tactic| simp only [aSeq, aNext, aSet, aVar, atV_s, onB_b, onI_i, onII_i, onL1_i, onL2_i, it_l, it_t, it_s, it_x, ix_l, ix_t, ix_s, add_i, add_x, eq_i, eq_x, eq_b, is_b, aC, aNil, aCons, aOp, aUn, aTup, aLst, aCB, aNot, aAnd, aOr, aTst, aIfE, aAndV, aOrV, aNotV, aChn, aDrop, aRet, aRetN, aIf, agName, agNil, agCons, agTup, aAsg, aPar, aAug, aFor, aRng1, aRng2, aIter, aLc, aYes,
  aCl, aMt, aMk, aFl, aFst, aNeg, aI2, aI20, aLe, aLt, aGt, aGe, aSub, aMod, aMul, aFdv, aPow, aXor, aShl, aShr, agSub, aoN, aoS, aSl, aRev, aLen, aList, aTupOf, aLRg1, aLRg2, aAbs, aI2N, aMax, aMin, aDm, aAll, aAny, aBM, aApp, aPopAt, aPop, aClear, aRevM, aExt, aRepr, aClD, aLnSt, aIAdd, aBreak, aCont,
  aEnd, startA, List.map_cons, List.map_nil, List.cons_append, List.nil_append, List.length_cons, List.length_nil, List.replicate, List.getElem?_cons_zero, List.getElem?_cons_succ, List.set_cons_zero, List.set_cons_succ, Nat.reduceAdd, Nat.reduceSub, Nat.succ_eq_add_one, Int.reduceAdd, Int.reduceMul,
  reduceIte, Bool.false_eq_true, Bool.not_true, Bool.not_false, ite_true, ite_false])
section
variable {prog : Program} {w : World} {A A₀ : Around} {E : Value → Shared → Prop} {s : Shared} {K : PySem.W.Frag} {x C L f : Addr} {h₀ : Heap} {m : Str → Option Value} {ox : Obj} {od : Option Obj} {name : Str} {b tb : Value}
end
end A
namespace A
open PySem PySem.Spec L2 PyProof.Rows
local macro_rules | `(tactic| walk_at "A.go") => `(tactic| simp only [aSeq, aNext, aSet, aVar, atV_s, onB_b, onI_i, onII_i, onL1_i, onL2_i, it_l, it_t, it_s, it_x, ix_l, ix_t, ix_s, add_i, add_x, eq_i, eq_x, eq_b, is_b, aC, aNil, aCons, aOp, aUn, aTup, aLst, aCB, aNot, aAnd, aOr, aTst, aIfE, aAndV, aOrV, aNotV, aChn, aDrop, aRet, aRetN, aIf, agName, agNil, agCons, agTup, aAsg, aPar, aAug, aFor, aRng1, aRng2, aIter, aLc, aYes,
  aCl, aMt, aMk, aFl, aFst, aNeg, aI2, aI20, aLe, aLt, aGt, aGe, aSub, aMod, aMul, aFdv, aPow, aXor, aShl, aShr, agSub, aoN, aoS, aSl, aRev, aLen, aList, aTupOf, aLRg1, aLRg2, aAbs, aI2N, aMax, aMin, aDm, aAll, aAny, aBM, aApp, aPopAt, aPop, aClear, aRevM, aExt, aRepr, aClD, aLnSt, aIAdd, aBreak, aCont,
  aEnd, startA, List.map_cons, List.map_nil, List.cons_append, List.nil_append, List.length_cons, List.length_nil, List.replicate, List.getElem?_cons_zero, List.getElem?_cons_succ, List.set_cons_zero, List.set_cons_succ, Nat.reduceAdd, Nat.reduceSub, Nat.succ_eq_add_one, Int.reduceAdd, Int.reduceMul,
  reduceIte, Bool.false_eq_true, Bool.not_true, Bool.not_false, ite_true, ite_false])
structure NeF (P : Program) (w : World) (K : PySem.W.Frag) (mg : Str → Option Value) (base : Heap) (C : Addr) (k : Nat) (sp : SpA) : Prop where
  eq : EqF P w K mg base C k sp
  ne : PySem.W.findIn K (.ref C) "__ne__" = some (some (.builtin "object.__ne__"))
  ob : PySem.W.subIn K (.ref C) (.type "object") = some true
section
variable {X : Cx} {W : WX} {k : Nat} {sp : SpA}
def aNeO (K : PySem.W.Frag) (ok okT : Addr → Prop) (sp : SpA) : O2 := fun d e S Q => ∃ C fs t, insOf S d = some (C, fs) ∧ ok C ∧ tyD S e = some t ∧ (∀ C, t = .ref C → okT C) ∧ PySem.W.notFirst K C t = true ∧ sp [d, e] S (Ret (onB fun b S' => Q (.bl (!b)) S')) noX
/-! repr(x) by an own __repr__ -/
structure ReprF (P : Program) (w : World) (K : PySem.W.Frag) (mg : Str → Option Value) (base : Heap) (C : Addr) (k : Nat) (sp : SpA) : Prop where
  ex : ∃ f fd ps, PySem.W.findIn K (.ref C) "__repr__" = some (some (.ref f)) ∧ PySem.W.isFn K (.ref f) = true ∧ Binds K fd ps [] ∧ FnA P w K mg base k f fd ps sp
end
end A

/-! ## f-strings: texts, ints, lists and tuples of data -/
namespace A
open PySem PySem.Spec L2 PyProof.Rows
local macro_rules | `(tactic| walk_at "A.go") => `(tactic| simp only [aSeq, aNext, aSet, aVar, atV_s, onB_b, onI_i, onII_i, onL1_i, onL2_i, it_l, it_t, it_s, it_x, ix_l, ix_t, ix_s, add_i, add_x, eq_i, eq_x, eq_b, is_b, aC, aNil, aCons, aOp, aUn, aTup, aLst, aCB, aNot, aAnd, aOr, aTst, aIfE, aAndV, aOrV, aNotV, aChn, aDrop, aRet, aRetN, aIf, agName, agNil, agCons, agTup, aAsg, aPar, aAug, aFor, aRng1, aRng2, aIter, aLc, aYes,
  aCl, aMt, aMk, aFl, aFst, aNeg, aI2, aI20, aLe, aLt, aGt, aGe, aSub, aMod, aMul, aFdv, aPow, aXor, aShl, aShr, agSub, aoN, aoS, aSl, aRev, aLen, aList, aTupOf, aLRg1, aLRg2, aAbs, aI2N, aMax, aMin, aDm, aAll, aAny, aBM, aApp, aPopAt, aPop, aClear, aRevM, aExt, aRepr, aClD, aLnSt, aIAdd, aBreak, aCont,
  aEnd, startA, List.map_cons, List.map_nil, List.cons_append, List.nil_append, List.length_cons, List.length_nil, List.replicate, List.getElem?_cons_zero, List.getElem?_cons_succ, List.set_cons_zero, List.set_cons_succ, Nat.reduceAdd, Nat.reduceSub, Nat.succ_eq_add_one, Int.reduceAdd, Int.reduceMul,
  reduceIte, Bool.false_eq_true, Bool.not_true, Bool.not_false, ite_true, ite_false])
section
variable {X : Cx} {W : WX}
def aFmt (a : AE) : AE := fun ρ S Q E => a ρ S (fun d S1 => (∃ y, d = .str y ∧ y.length ≤ sizeLine ∧ Q (.str y) S1) ∨ (∃ i, d = .int i ∧ i.natAbs.log2 < 1920 ∧ Q (.str (toString i)) S1) ∨
  ∃ n p, n ≤ 60 ∧ rd S1 n d = some p ∧ ((∃ l, p = .list l) ∨ ∃ l, p = .tuple l) ∧ sml p = true ∧ p.weight ≤ 2 ^ 20 ∧ Q (.str p.shown) S1) E
/-- the parts -/
inductive JA (X : Cx) (W : WX) : List Expr → List TE → List AE → Prop where
  | nil : JA X W [] [] []
  | cons {e : Expr} {t : TE} {a : AE} {es : List Expr} {ts : List TE} {as : List AE} (h : EA X W e t a) (r : JA X W es ts as) : JA X W (e :: es) (t :: ts) (a :: as)
def aJs : List AE → Str → AE
  | [], acc => fun _ S Q _ => Q (.str acc) S
  | a :: as, acc => fun ρ S Q E => a ρ S (fun d S1 => ∃ y, d = .str y ∧ (acc ++ y).length ≤ sizeLine ∧ aJs as (acc ++ y) ρ S1 Q E) E
end
end A

/-! ## t[::-1] of a tuple -/
namespace A
open PySem PySem.Spec L2 PyProof.Rows
local macro_rules | `(tactic| walk_at "A.go") => `(tactic| simp only [aSeq, aNext, aSet, aVar, atV_s, onB_b, onI_i, onII_i, onL1_i, onL2_i, it_l, it_t, it_s, it_x, ix_l, ix_t, ix_s, add_i, add_x, eq_i, eq_x, eq_b, is_b, aC, aNil, aCons, aOp, aUn, aTup, aLst, aCB, aNot, aAnd, aOr, aTst, aIfE, aAndV, aOrV, aNotV, aChn, aDrop, aRet, aRetN, aIf, agName, agNil, agCons, agTup, aAsg, aPar, aAug, aFor, aRng1, aRng2, aIter, aLc, aYes,
  aCl, aMt, aMk, aFl, aFst, aNeg, aI2, aI20, aLe, aLt, aGt, aGe, aSub, aMod, aMul, aFdv, aPow, aXor, aShl, aShr, agSub, aoN, aoS, aSl, aRev, aLen, aList, aTupOf, aLRg1, aLRg2, aAbs, aI2N, aMax, aMin, aDm, aAll, aAny, aBM, aApp, aPopAt, aPop, aClear, aRevM, aExt, aRepr, aClD, aLnSt, aIAdd, aBreak, aCont,
  aEnd, startA, List.map_cons, List.map_nil, List.cons_append, List.nil_append, List.length_cons, List.length_nil, List.replicate, List.getElem?_cons_zero, List.getElem?_cons_succ, List.set_cons_zero, List.set_cons_succ, Nat.reduceAdd, Nat.reduceSub, Nat.succ_eq_add_one, Int.reduceAdd, Int.reduceMul,
  reduceIte, Bool.false_eq_true, Bool.not_true, Bool.not_false, ite_true, ite_false])
section
variable {prog : Program} {w : World} {A : Around} {E : Value → Shared → Prop} {s : Shared}
end
section
variable {X : Cx} {W : WX} {e : Expr} {te : TE} {ae : AE} {pos : Pos}
def aRevT (ae : AE) : AE := fun ρ S Q E => ae ρ S (fun d S1 => ∃ ds, d = .tup ds ∧ Q (.tup ds.reverse) S1) E
end
end A

/-! ## isinstance(x, (c1, c2)) -/
namespace A
open PySem PySem.Spec L2 PyProof.Rows
local macro_rules | `(tactic| walk_at "A.go") => `(tactic| simp only [aSeq, aNext, aSet, aVar, atV_s, onB_b, onI_i, onII_i, onL1_i, onL2_i, it_l, it_t, it_s, it_x, ix_l, ix_t, ix_s, add_i, add_x, eq_i, eq_x, eq_b, is_b, aC, aNil, aCons, aOp, aUn, aTup, aLst, aCB, aNot, aAnd, aOr, aTst, aIfE, aAndV, aOrV, aNotV, aChn, aDrop, aRet, aRetN, aIf, agName, agNil, agCons, agTup, aAsg, aPar, aAug, aFor, aRng1, aRng2, aIter, aLc, aYes,
  aCl, aMt, aMk, aFl, aFst, aNeg, aI2, aI20, aLe, aLt, aGt, aGe, aSub, aMod, aMul, aFdv, aPow, aXor, aShl, aShr, agSub, aoN, aoS, aSl, aRev, aLen, aList, aTupOf, aLRg1, aLRg2, aAbs, aI2N, aMax, aMin, aDm, aAll, aAny, aBM, aApp, aPopAt, aPop, aClear, aRevM, aExt, aRepr, aClD, aLnSt, aIAdd, aBreak, aCont,
  aEnd, startA, List.map_cons, List.map_nil, List.cons_append, List.nil_append, List.length_cons, List.length_nil, List.replicate, List.getElem?_cons_zero, List.getElem?_cons_succ, List.set_cons_zero, List.set_cons_succ, Nat.reduceAdd, Nat.reduceSub, Nat.succ_eq_add_one, Int.reduceAdd, Int.reduceMul,
  reduceIte, Bool.false_eq_true, Bool.not_true, Bool.not_false, ite_true, ite_false])
section
variable {X : Cx}
def clsDs : List D → Option (List Value)
  | [] => some []
  | c :: cs => match clsD c, clsDs cs with
    | some u, some us => some (u :: us)
    | _, _ => none
def aIsiT (K : PySem.W.Frag) (ok : Addr → Prop) : ON := fun ds S Q => ∃ d cs t us b, ds = [d, .tup cs] ∧ clsDs cs = some us ∧ tyD S d = some t ∧ (∀ C, t = .ref C → ok C) ∧ PySem.W.kitAny K t us = some b ∧ Q (.bl b) S
end
end A

/-! ## methods that each class has of its own: the promise goes by the class -/
namespace A
open PySem PySem.Spec L2 PyProof.Rows
local macro_rules | `(tactic| walk_at "A.go") => `(tactic| simp only [aSeq, aNext, aSet, aVar, atV_s, onB_b, onI_i, onII_i, onL1_i, onL2_i, it_l, it_t, it_s, it_x, ix_l, ix_t, ix_s, add_i, add_x, eq_i, eq_x, eq_b, is_b, aC, aNil, aCons, aOp, aUn, aTup, aLst, aCB, aNot, aAnd, aOr, aTst, aIfE, aAndV, aOrV, aNotV, aChn, aDrop, aRet, aRetN, aIf, agName, agNil, agCons, agTup, aAsg, aPar, aAug, aFor, aRng1, aRng2, aIter, aLc, aYes,
  aCl, aMt, aMk, aFl, aFst, aNeg, aI2, aI20, aLe, aLt, aGt, aGe, aSub, aMod, aMul, aFdv, aPow, aXor, aShl, aShr, agSub, aoN, aoS, aSl, aRev, aLen, aList, aTupOf, aLRg1, aLRg2, aAbs, aI2N, aMax, aMin, aDm, aAll, aAny, aBM, aApp, aPopAt, aPop, aClear, aRevM, aExt, aRepr, aClD, aLnSt, aIAdd, aBreak, aCont,
  aEnd, startA, List.map_cons, List.map_nil, List.cons_append, List.nil_append, List.length_cons, List.length_nil, List.replicate, List.getElem?_cons_zero, List.getElem?_cons_succ, List.set_cons_zero, List.set_cons_succ, Nat.reduceAdd, Nat.reduceSub, Nat.succ_eq_add_one, Int.reduceAdd, Int.reduceMul,
  reduceIte, Bool.false_eq_true, Bool.not_true, Bool.not_false, ite_true, ite_false])
section
variable {X : Cx} {W : WX} {k : Nat} {ps : List Str} {sp : Addr → SpA} {x m : Str} {p pos apos : Pos} {e o : Expr} {es : List Expr} {t : TA} {ar : AA} {to : TE} {ao : AE}
def aMtF (ok : Addr → Prop) (m : Str) (sp : Addr → SpA) (ao : AE) (ar : AA) : AE := fun ρ S Q E => ao ρ S (fun d S1 => ∃ C fs, insOf S1 d = some (C, fs) ∧ ok C ∧ fs.lookup m = none ∧ ar ρ S1 (fun ds S2 => sp C (d :: ds) S2 (Ret Q) E) E) E
end
section
variable {X : Cx} {W : WX} {k : Nat} {sp : Addr → SpA}
def aReprF (ok : Addr → Prop) (sp : Addr → SpA) : ON := fun ds S Q => ∃ d C fs, ds = [d] ∧ insOf S d = some (C, fs) ∧ ok C ∧ sp C [d] S (Ret fun v S' => ∃ z, v = .str z ∧ Q (.str z) S') noX
section
variable {P : Program} {w : World} {K : PySem.W.Frag} {mg : Str → Option Value} {base : Heap} {C : Addr} {m : Str} {j k : Nat} {ps : List Str} {sp sp' : SpA}
theorem FnA.imp0 {f : Addr} {fd : FuncData} (F : FnA P w K mg base k f fd ps sp) (h : ∀ ds S Q E, sp' ds S Q E → sp ds S Q E) : FnA P w K mg base k f fd ps sp' :=
  ⟨F.g.imp fun vs H Qc Ec ⟨ds, F, S, R, Q, E, dv, T, q, po, wx⟩ => ⟨ds, F, S, R, Q, E, dv, T, h ds S Q E q, po, wx⟩⟩
theorem MF.imp (M : MF P w K mg base C m j ps sp) (h : j ≤ k) (i : ∀ ds S Q E, sp' ds S Q E → sp ds S Q E) : MF P w K mg base C m k ps sp' := by
  obtain ⟨cl, f, fd, a, b, F⟩ := M
  exact ⟨cl, f, fd, a, b, (F.mono h).imp0 i⟩
theorem ReprF.imp (M : ReprF P w K mg base C j sp) (h : j ≤ k) (i : ∀ ds S Q E, sp' ds S Q E → sp ds S Q E) : ReprF P w K mg base C k sp' := by
  obtain ⟨f, fd, ps, a, b, c, F⟩ := M
  exact ⟨f, fd, ps, a, b, c, (F.mono h).imp0 i⟩
end
end
end A
namespace A
open PySem PySem.Spec L2 PyProof.Rows He
local macro_rules | `(tactic| walk_at "A.go") => `(tactic| simp only [aSeq, aNext, aSet, aVar, atV_s, onB_b, onI_i, onII_i, onL1_i, onL2_i, it_l, it_t, it_s, it_x, ix_l, ix_t, ix_s, add_i, add_x, eq_i, eq_x, eq_b, is_b, aC, aNil, aCons, aOp, aUn, aTup, aLst, aCB, aNot, aAnd, aOr, aTst, aIfE, aAndV, aOrV, aNotV, aChn, aDrop, aRet, aRetN, aIf, agName, agNil, agCons, agTup, aAsg, aPar, aAug, aFor, aRng1, aRng2, aIter, aLc, aYes,
  aCl, aMt, aMk, aFl, aFst, aNeg, aI2, aI20, aLe, aLt, aGt, aGe, aSub, aMod, aMul, aFdv, aPow, aXor, aShl, aShr, agSub, aoN, aoS, aSl, aRev, aLen, aList, aTupOf, aLRg1, aLRg2, aAbs, aI2N, aMax, aMin, aDm, aAll, aAny, aBM, aApp, aPopAt, aPop, aClear, aRevM, aExt, aRepr, aClD, aLnSt, aIAdd, aBreak, aCont,
  aEnd, startA, List.map_cons, List.map_nil, List.cons_append, List.nil_append, List.length_cons, List.length_nil, List.replicate, List.getElem?_cons_zero, List.getElem?_cons_succ, List.set_cons_zero, List.set_cons_succ, Nat.reduceAdd, Nat.reduceSub, Nat.succ_eq_add_one, Int.reduceAdd, Int.reduceMul,
  reduceIte, Bool.false_eq_true, Bool.not_true, Bool.not_false, ite_true, ite_false])
end A

/-! ## set(xs) of a list of ints, sorted(set) -/
namespace A
open PySem PySem.Spec L2 PyProof.Rows
local macro_rules | `(tactic| walk_at "A.go") => `(tactic| simp only [aSeq, aNext, aSet, aVar, atV_s, onB_b, onI_i, onII_i, onL1_i, onL2_i, it_l, it_t, it_s, it_x, ix_l, ix_t, ix_s, add_i, add_x, eq_i, eq_x, eq_b, is_b, aC, aNil, aCons, aOp, aUn, aTup, aLst, aCB, aNot, aAnd, aOr, aTst, aIfE, aAndV, aOrV, aNotV, aChn, aDrop, aRet, aRetN, aIf, agName, agNil, agCons, agTup, aAsg, aPar, aAug, aFor, aRng1, aRng2, aIter, aLc, aYes,
  aCl, aMt, aMk, aFl, aFst, aNeg, aI2, aI20, aLe, aLt, aGt, aGe, aSub, aMod, aMul, aFdv, aPow, aXor, aShl, aShr, agSub, aoN, aoS, aSl, aRev, aLen, aList, aTupOf, aLRg1, aLRg2, aAbs, aI2N, aMax, aMin, aDm, aAll, aAny, aBM, aApp, aPopAt, aPop, aClear, aRevM, aExt, aRepr, aClD, aLnSt, aIAdd, aBreak, aCont,
  aEnd, startA, List.map_cons, List.map_nil, List.cons_append, List.nil_append, List.length_cons, List.length_nil, List.replicate, List.getElem?_cons_zero, List.getElem?_cons_succ, List.set_cons_zero, List.set_cons_succ, Nat.reduceAdd, Nat.reduceSub, Nat.succ_eq_add_one, Int.reduceAdd, Int.reduceMul,
  reduceIte, Bool.false_eq_true, Bool.not_true, Bool.not_false, ite_true, ite_false])
section
variable {P : Program} {w : World} {A : Around} {E : Value → Shared → Prop} {s : Shared}
end
section
variable {X : Cx}
def aSetOf : ON := fun ds S Q => ∃ d l ns, ds = [d] ∧ asL S d = some l ∧ intsOf l = some ns ∧ ns.length ≤ 1000 ∧ ∀ l' : List Int, l'.Nodup → (∀ k, k ∈ l' ↔ k ∈ ns) → Q (.set l') S
/-- sorted(x), x a set of ints, of fewer than 64 -/
def aSrtSet : ON := fun ds S Q => ∃ l : List Int, ds = [.set l] ∧ l.length < 64 ∧ ∀ ns : List Int, ns.Pairwise (· < ·) → (∀ k, k ∈ ns ↔ k ∈ l) → NewL (ns.map .int) S Q
end
end A

/-! ## enumerate, zip, xs * n, xs[i] += e, xs.count(x), x in (a, b) -/
namespace A
open PySem PySem.Spec L2 PyProof.Rows
local macro_rules | `(tactic| walk_at "A.go") => `(tactic| simp only [aSeq, aNext, aSet, aVar, atV_s, onB_b, onI_i, onII_i, onL1_i, onL2_i, it_l, it_t, it_s, it_x, ix_l, ix_t, ix_s, add_i, add_x, eq_i, eq_x, eq_b, is_b, aC, aNil, aCons, aOp, aUn, aTup, aLst, aCB, aNot, aAnd, aOr, aTst, aIfE, aAndV, aOrV, aNotV, aChn, aDrop, aRet, aRetN, aIf, agName, agNil, agCons, agTup, aAsg, aPar, aAug, aFor, aRng1, aRng2, aIter, aLc, aYes,
  aCl, aMt, aMk, aFl, aFst, aNeg, aI2, aI20, aLe, aLt, aGt, aGe, aSub, aMod, aMul, aFdv, aPow, aXor, aShl, aShr, agSub, aoN, aoS, aSl, aRev, aLen, aList, aTupOf, aLRg1, aLRg2, aAbs, aI2N, aMax, aMin, aDm, aAll, aAny, aBM, aApp, aPopAt, aPop, aClear, aRevM, aExt, aRepr, aClD, aLnSt, aIAdd, aBreak, aCont,
  aEnd, startA, List.map_cons, List.map_nil, List.cons_append, List.nil_append, List.length_cons, List.length_nil, List.replicate, List.getElem?_cons_zero, List.getElem?_cons_succ, List.set_cons_zero, List.set_cons_succ, Nat.reduceAdd, Nat.reduceSub, Nat.succ_eq_add_one, Int.reduceAdd, Int.reduceMul,
  reduceIte, Bool.false_eq_true, Bool.not_true, Bool.not_false, ite_true, ite_false])
def enumD (l : List D) : List D := List.zipWith (fun (i : Nat) d => D.tup [.int i, d]) (List.range l.length) l
def zipD (l m : List D) : List D := List.zipWith (fun d e => D.tup [d, e]) l m
theorem enumD_len {l : List D} : (enumD l).length = l.length := by unfold enumD; simp
theorem enumD_get {l : List D} {i : Nat} {x : D} (h : (enumD l)[i]? = some x) : ∃ d, l[i]? = some d ∧ x = .tup [.int i, d] := by
  have lt := (List.getElem?_eq_some_iff.mp h).1
  rw [enumD_len] at lt
  refine ⟨l[i], List.getElem?_eq_getElem lt, ?_⟩
  unfold enumD at h
  rw [List.getElem?_zipWith, List.getElem?_range lt, List.getElem?_eq_getElem lt] at h
  exact (Option.some.inj h).symm
theorem two_line : 2 ≤ sizeLine := by rw [sizeLine_eq]; decide
theorem froz_pair {K : KW} {F H : Hp} {S R : Sto} {T : Addr} {x y : V} {d e : D} (st : Sta K F S R H) (n : H T = none) (hx : Dv K F x d) (hy : Dv K F y e) :
    ∃ F2, Same F F2 ∧ Sta K F2 S R (upd H T (.tup [x, y])) ∧ Dv K F2 (.ref T) (.tup [d, e]) := by
  obtain ⟨fF, _, _⟩ := st.free n
  refine ⟨_, same_upd fF, st.frozen n, .tup (SqT.of upd_same) two_line (.cons (hx.mono (same_upd fF)) (.cons (hy.mono (same_upd fF)) .nil))⟩
/-- a list that stays as it is: as data, or as long as it stands so -/
theorem asL_stays {K : KW} {F H : Hp} {S R : Sto} {v : V} {d : D} {l : List D} (st : Sta K F S R H) (dv : Dv K F v d) (h : asL S d = some l) :
    ∃ a, v = .ref a ∧ ∀ F' S' R' H', Same F F' → Sta K F' S' R' H' → asL S' d = some l → ∃ xs, SqL K.K H' a xs ∧ DvL K F' xs l := by
  obtain ⟨a, xs, rfl, h1, h2, _⟩ := asL_ok st dv h
  refine ⟨a, rfl, fun F' S' R' H' e st' h' => ?_⟩
  obtain ⟨b, ys, e2, h3, h4, _⟩ := asL_ok st' (dv.mono e) h'
  cases e2
  exact ⟨ys, SqL.of h3, h4⟩
section
variable {X : Cx} {W : WX} {e e2 : Expr} {t : TA} {ar : AA} {p pos tpos : Pos} {elts : List Expr} {kk : Nat}
def aEnum (ar : AA) : AI := fun ρ S Q E => ar ρ S (fun ds S1 => ∃ d l, ds = [d] ∧ asL S1 d = some l ∧ Q (enumD l) (fun S' => asL S' d = some l) S1) E
theorem i_enum (hm : X.mg "enumerate" = none) (h : ArA X W [e] t ar) (hg : Gl X "enumerate" := by rfl) (hs : starEach [e] X.env = [(false, eval e X.env)] := by rfl) :
    IA X W (.Tuple elts kk tpos) (.Call (.Name "enumerate" p) [e] [] pos) (iEnum X.K t) (aEnum ar) := by
  refine ⟨pi_enum hg hm h.pa hs, fun σ H F S R ρ Q E P T en wo q po => h.ra σ H F S R ρ _ E _ T en wo q fun vs H1 F1 S1 ds e1 T1 dvs q1 => ?_⟩
  obtain ⟨d, l, rfl, hl, q2⟩ := q1
  cases dvs with
  | cons h1 t1 =>
    cases t1
    obtain ⟨b, ys, eb, g1, g2, gz⟩ := asL_ok T1 h1 hl
    obtain ⟨a, ea, sq⟩ := asL_stays T1 h1 hl
    subst ea
    cases eb
    refine ⟨b, ys, rfl, SqL.of g1, po _ H1 F1 S1 _ _ e1 T1 ?_ q2⟩
    refine ⟨by rw [enumD_len]; exact gz, fun F' S' R' H' e T' g => ?_, fun i x F' S' R' H' e T' g hd => ?_, fun i x F' S' R' H' v H2 e T' g hd y => ?_⟩
    · obtain ⟨xs, s1, s2⟩ := sq F' S' R' H' e T' g
      have hl2 := s2.len
      rw [enumD_len, ← hl2]
      exact walk_enum.stops H' s1
    · obtain ⟨xs, s1, s2⟩ := sq F' S' R' H' e T' g
      have lt := (List.getElem?_eq_some_iff.mp hd).1
      rw [enumD_len, ← s2.len] at lt
      exact walk_enum.goes i H' lt s1
    · obtain ⟨xs, s1, s2⟩ := sq F' S' R' H' e T' g
      have lt := (List.getElem?_eq_some_iff.mp hd).1
      rw [enumD_len, ← s2.len] at lt
      obtain ⟨c, u, w, rfl, hn, rfl, eu, ew⟩ := walk_enum.yields i H' v H2 lt s1 y
      obtain ⟨d', hd', rfl⟩ := enumD_get hd
      obtain ⟨w', hw', dw⟩ := s2.getD hd'
      have ew' : xs[i]? = some w := ew
      rw [ew'] at hw'
      cases hw'
      cases eu
      exact froz_pair T' hn (.int _) dw
def aZip (ar : AA) : AI := fun ρ S Q E => ar ρ S (fun ds S1 => ∃ d d2 l m, ds = [d, d2] ∧ asL S1 d = some l ∧ asL S1 d2 = some m ∧ Q (zipD l m) (fun S' => asL S' d = some l ∧ asL S' d2 = some m) S1) E
/-- a list times an int; ints' product -/
def aMulL : O2 := fun d e S Q => ∃ l k, asL S d = some l ∧ e = .int k ∧ 0 ≤ k ∧ k ≤ 16777216 ∧ l.length * k.toNat ≤ sizeLine ∧ NewL (List.replicate k.toNat l).flatten S Q
/-- xs.count(x), ints -/
def aCount : OM := fun d ds S Q => ∃ l ns k, ds = [.int k] ∧ asL S d = some l ∧ intsOf l = some ns ∧ Q (.int (ns.count k : Nat)) S
def aAugS (ao ai ae : AE) (op : O2) : AS := fun D ρ S => ao ρ S (fun o S1 => ai ρ S1 (fun i S2 => ∃ l k x, asL S2 o = some l ∧ i = .int k ∧ 0 ≤ k ∧ l[k.toNat]? = some x ∧
  ae ρ S2 (fun y S3 => op x y S3 fun z S4 => aPut o i z S4 fun S5 => D.nx ρ S5) (D.xx ρ)) (D.xx ρ)) (D.xx ρ)
end
end A

/-! ## d.get(k), dict(pairs), dict(d), list(d.items()), xs.remove(k) -/
namespace A
open PySem PySem.Spec L2 PyProof.Rows
local macro_rules | `(tactic| walk_at "A.go") => `(tactic| simp only [aSeq, aNext, aSet, aVar, atV_s, onB_b, onI_i, onII_i, onL1_i, onL2_i, it_l, it_t, it_s, it_x, ix_l, ix_t, ix_s, add_i, add_x, eq_i, eq_x, eq_b, is_b, aC, aNil, aCons, aOp, aUn, aTup, aLst, aCB, aNot, aAnd, aOr, aTst, aIfE, aAndV, aOrV, aNotV, aChn, aDrop, aRet, aRetN, aIf, agName, agNil, agCons, agTup, aAsg, aPar, aAug, aFor, aRng1, aRng2, aIter, aLc, aYes,
  aCl, aMt, aMk, aFl, aFst, aNeg, aI2, aI20, aLe, aLt, aGt, aGe, aSub, aMod, aMul, aFdv, aPow, aXor, aShl, aShr, agSub, aoN, aoS, aSl, aRev, aLen, aList, aTupOf, aLRg1, aLRg2, aAbs, aI2N, aMax, aMin, aDm, aAll, aAny, aBM, aApp, aPopAt, aPop, aClear, aRevM, aExt, aRepr, aClD, aLnSt, aIAdd, aBreak, aCont,
  aEnd, startA, List.map_cons, List.map_nil, List.cons_append, List.nil_append, List.length_cons, List.length_nil, List.replicate, List.getElem?_cons_zero, List.getElem?_cons_succ, List.set_cons_zero, List.set_cons_succ, Nat.reduceAdd, Nat.reduceSub, Nat.succ_eq_add_one, Int.reduceAdd, Int.reduceMul,
  reduceIte, Bool.false_eq_true, Bool.not_true, Bool.not_false, ite_true, ite_false])
section
variable {X : Cx} {W : WX} {o i e : Expr} {to ti te : TE} {ao ai ae : AE} {pos cpos apos p : Pos}
def aDGet (ao ai : AE) : AE := fun ρ S Q E => ao ρ S (fun d S1 => (∃ m, dctOf S1 d = some m) ∧ ai ρ S1 (fun e S2 => ∃ m k, dctOf S2 d = some m ∧ keyD e = some k ∧ Q ((valA m k).getD .non) S2) E) E
/-- xs.remove(k) of ints -/
def aRem : OM := fun d ds S Q => ∃ a ns k j, d = .own a ∧ S a = some (.lst (List.map D.int ns)) ∧ ds = [.int k] ∧ ns[j]? = some k ∧ (∀ m : Nat, m < j → ns[m]? ≠ some k) ∧ Q .non (put S a (.lst (List.map D.int (ns.eraseIdx j))))
/-- pairs of keys and values -/
def kvD (q : Key × D) : D := .tup [dKey q.1, q.2]
def mergeA (m more : List (Key × D)) : List (Key × D) := more.foldl (fun acc q => putKA acc q.1 q.2) m
def aDictP : ON := fun ds S Q => ∃ d m, ds = [d] ∧ asL S d = some (List.map kvD m) ∧ ∀ a, S a = none → Q (.own a) (put S a (.dct (mergeA [] m)))
def aDictD : ON := fun ds S Q => ∃ d m, ds = [d] ∧ dctOf S d = some m ∧ ∀ a, S a = none → Q (.own a) (put S a (.dct m))
/-- list(d.items()) -/
def aListIt (ae : AE) : AE := fun ρ S Q E => ae ρ S (fun d S1 => ∃ m, dctOf S1 d = some m ∧ NewL (m.map kvD) S1 Q) E
end
end A

/-! ## a comprehension over d.items() of one's own dict: the dict is locked meanwhile -/
namespace A
open PySem PySem.Spec L2 PyProof.Rows
local macro_rules | `(tactic| walk_at "A.go") => `(tactic| simp only [aSeq, aNext, aSet, aVar, atV_s, onB_b, onI_i, onII_i, onL1_i, onL2_i, it_l, it_t, it_s, it_x, ix_l, ix_t, ix_s, add_i, add_x, eq_i, eq_x, eq_b, is_b, aC, aNil, aCons, aOp, aUn, aTup, aLst, aCB, aNot, aAnd, aOr, aTst, aIfE, aAndV, aOrV, aNotV, aChn, aDrop, aRet, aRetN, aIf, agName, agNil, agCons, agTup, aAsg, aPar, aAug, aFor, aRng1, aRng2, aIter, aLc, aYes,
  aCl, aMt, aMk, aFl, aFst, aNeg, aI2, aI20, aLe, aLt, aGt, aGe, aSub, aMod, aMul, aFdv, aPow, aXor, aShl, aShr, agSub, aoN, aoS, aSl, aRev, aLen, aList, aTupOf, aLRg1, aLRg2, aAbs, aI2N, aMax, aMin, aDm, aAll, aAny, aBM, aApp, aPopAt, aPop, aClear, aRevM, aExt, aRepr, aClD, aLnSt, aIAdd, aBreak, aCont,
  aEnd, startA, List.map_cons, List.map_nil, List.cons_append, List.nil_append, List.length_cons, List.length_nil, List.replicate, List.getElem?_cons_zero, List.getElem?_cons_succ, List.set_cons_zero, List.set_cons_succ, Nat.reduceAdd, Nat.reduceSub, Nat.succ_eq_add_one, Int.reduceAdd, Int.reduceMul,
  reduceIte, Bool.false_eq_true, Bool.not_true, Bool.not_false, ite_true, ite_false])
def less (F : Hp) (a : Addr) : Hp := fun b => if b = a then none else F b
def delS (S : Sto) (a : Addr) : Sto := fun b => if b = a then none else S b
section
variable {K : KW} {F H : Hp} {S R : Sto} {a : Addr} {o : Obj} {l : List (Key × V)}
theorem less_ne {b : Addr} (h : b ≠ a) : less F a b = F b := if_neg h
theorem less_of {b : Addr} {u : HO} (hF : F a = some (.frz o (.dK l))) (h : F b = some u) (n : ∀ o l, u ≠ .frz o (.dK l)) : less F a b = some u := by
  rw [less_ne (by rintro rfl; rw [hF] at h; cases h; exact n _ _ rfl)]
  exact h
theorem SqL.less_ {K : PySem.W.Frag} {b : Addr} {xs : List V} (hF : F a = some (.frz o (.dK l))) (h : SqL K F b xs) : SqL K (less F a) b xs := by
  rcases h with (h | ⟨o', h⟩) | h
  · exact Or.inl (Or.inl (less_of hF h fun _ _ z => nomatch z))
  · exact Or.inl (Or.inr ⟨o', less_of hF h fun _ _ z => nomatch z⟩)
  · exact Or.inr h
theorem SqT.less_ {K : PySem.W.Frag} {b : Addr} {xs : List V} (hF : F a = some (.frz o (.dK l))) (h : SqT K F b xs) : SqT K (less F a) b xs := by
  rcases h with (h | ⟨o', h⟩) | h
  · exact Or.inl (Or.inl (less_of hF h fun _ _ z => nomatch z))
  · exact Or.inl (Or.inr ⟨o', less_of hF h fun _ _ z => nomatch z⟩)
  · exact Or.inr h
mutual
theorem Dv.less_ (hF : F a = some (.frz o (.dK l))) : ∀ {v : V} {d : D}, Dv K F v d → Dv K (less F a) v d
  | _, _, .non => .non
  | _, _, .bl b => .bl b
  | _, _, .int i => .int i
  | _, _, .str x => .str x
  | _, _, .ty n => .ty n
  | _, _, .own a => .own a
  | _, _, .scr h z => .scr (SqL.less_ hF h) z
  | _, _, .lst h z t => .lst (less_of hF h fun _ _ z => nomatch z) z (DvL.less_ hF t)
  | _, _, .tup h z t => .tup (SqT.less_ hF h) z (DvL.less_ hF t)
  | _, _, .set h n => .set (less_of hF h fun _ _ z => nomatch z) n
  | _, _, .exc h q t => .exc (less_of hF h fun _ _ z => nomatch z) q (DvL.less_ hF t)
  | _, _, .exc0 => .exc0
  | _, _, .xv p x h q t => .xv (less_of hF p fun _ _ z => nomatch z) x (less_of hF h fun _ _ z => nomatch z) q (DvL.less_ hF t)
  | _, _, .xv0 p x => .xv0 (less_of hF p fun _ _ z => nomatch z) x
theorem DvL.less_ (hF : F a = some (.frz o (.dK l))) : ∀ {vs : List V} {ds : List D}, DvL K F vs ds → DvL K (less F a) vs ds
  | _, _, .nil => .nil
  | _, _, .cons h t => .cons (Dv.less_ hF h) (DvL.less_ hF t)
end
theorem DvP.less_ {κ : Type} (hF : F a = Option.some (HO.frz o (HO.dK l))) : ∀ {l' : List (κ × V)} {m : List (κ × D)}, DvP K F l' m → DvP K (less F a) l' m
  | _, _, .nil => .nil
  | _, _, .cons h t => .cons ⟨h.1, h.2.less_ hF⟩ (DvP.less_ hF t)
theorem CellOk.less_ {b : Addr} {c : Cell} {u : HO} (hF : F a = some (.frz o (.dK l))) (hb : b ≠ a) (h : CellOk K F H b c) : CellOk K (less F a) (upd H a u) b c := by
  cases c with
  | lst ds => obtain ⟨z, xs, h1, h2⟩ := h; exact ⟨z, xs, by rw [upd_ne hb]; exact h1, DvL.less_ hF h2⟩
  | dct m => obtain ⟨z, l, h1, h2⟩ := h; exact ⟨z, l, by rw [upd_ne hb]; exact h1, DvP.less_ hF h2⟩
  | ins C fs => obtain ⟨dx, gs, h1, h2⟩ := h; exact ⟨dx, gs, by rw [upd_ne hb]; exact h1, DvP.less_ hF h2⟩
  | pot => obtain ⟨x, y, h1, h2⟩ := h; exact ⟨x, y, by rw [upd_ne hb]; exact h1, h2⟩
  | dtt m => obtain ⟨z, l, h1, h2⟩ := h; exact ⟨z, l, by rw [upd_ne hb]; exact h1, DvP.less_ hF h2⟩
end
section
variable {X : Cx} {W : WX} {elt tg iter : Expr} {ifs : List Expr} {scope : Scope} {own : List (Str × Nat)} {pos : Pos} {wi : TI} {ai : AI} {g : TG} {ag : AG} {tt : TT} {at_ : AT} {te : TE} {ae : AE}
/-- [elt for k, v in o.items() if ..], o one's own dict -/
def aLcIt (ao : AE) (g : AG) (tt : AT) (e : AE) (vs : List Nat) : AE := fun ρ S Q _ => ∃ a m, S a = some (.dct m) ∧ ao ρ (delS S a) (fun x S1 => x = .own a ∧ aLcL g tt e (fun _ => True) (wipeA ρ vs) (fun v S2 => S2 a = none ∧ Q v (put S2 a (.dct m))) (m.map kvD) [] S1) noX
variable {o : Expr} {to : TE} {ao : AE} {apos cpos tpos : Pos} {elts : List Expr} {kk : Nat}
end
end A

namespace A
local macro_rules | `(tactic| walk_at "A.go") => `(tactic| simp only [aSeq, aNext, aSet, aVar, atV_s, onB_b, onI_i, onII_i, onL1_i, onL2_i, it_l, it_t, it_s, it_x, ix_l, ix_t, ix_s, add_i, add_x, eq_i, eq_x, eq_b, is_b, aC, aNil, aCons, aOp, aUn, aTup, aLst, aCB, aNot, aAnd, aOr, aTst, aIfE, aAndV, aOrV, aNotV, aChn, aDrop, aRet, aRetN, aIf, agName, agNil, agCons, agTup, aAsg, aPar, aAug, aFor, aRng1, aRng2, aIter, aLc, aYes,
  aCl, aMt, aMk, aFl, aFst, aNeg, aI2, aI20, aLe, aLt, aGt, aGe, aSub, aMod, aMul, aFdv, aPow, aXor, aShl, aShr, agSub, aoN, aoS, aSl, aRev, aLen, aList, aTupOf, aLRg1, aLRg2, aAbs, aI2N, aMax, aMin, aDm, aAll, aAny, aBM, aApp, aPopAt, aPop, aClear, aRevM, aExt, aRepr, aClD, aLnSt, aIAdd, aBreak, aCont,
  aEnd, startA, List.map_cons, List.map_nil, List.cons_append, List.nil_append, List.length_cons, List.length_nil, List.replicate, List.getElem?_cons_zero, List.getElem?_cons_succ, List.set_cons_zero, List.set_cons_succ, Nat.reduceAdd, Nat.reduceSub, Nat.succ_eq_add_one, Int.reduceAdd, Int.reduceMul,
  reduceIte, Bool.false_eq_true, Bool.not_true, Bool.not_false, ite_true, ite_false])
/-! ## the head's run, looked at in three parts: one declaration for all of them takes twice the memory and more (each look works the end's state out anew) -/
open PySem PySem.W PySem.Calls PyProof.Rows
section
variable (r : PySem.W.OpenRow) (q : Program) (H : PySem.W.Hook) (ob : SharedT → H.α) (M : Nat) (loose : List PySem.Str) (w : World)
noncomputable def endR (os : OsState) : Option SharedT := HandSHeadRun.endF (HandSHeadRun.stepQ (HandSHeadRun.denQ HandSHeadRun.tabQ) r.prog w) M r.prog w os
def Run1 : Prop := ∀ os : OsState, (endR r M w os).map (fun s => HandSHeadRun.looksF r.prog (boot_heap w.params) s.abs) = some true
def Run2 : Prop := ∀ os : OsState, (endR r M w os).map (fun s => HandSHeadRun.seenQ q loose (importedModules r.prog.main.body) (fun s => xlAt q [] s && recOk r.toRowW.records s) s.abs) = some (openGood q loose)
def Run3 : Prop := ∀ os : OsState, (endR r M w os).map ob = some (H.val w)
theorem runEq_of {r : PySem.W.OpenRow} {q : Program} {H : PySem.W.Hook} {ob : SharedT → H.α} {M : Nat} {loose : List PySem.Str} {w : World} (h1 : Run1 r M w) (h2 : Run2 r q M loose w) (h3 : Run3 r H ob M w) : HandSHeadRun.RunEq r q H ob M loose w := by
  intro os
  have a := h1 os
  have b := h2 os
  have c := h3 os
  unfold endR at a b c
  cases e : HandSHeadRun.endF (HandSHeadRun.stepQ (HandSHeadRun.denQ HandSHeadRun.tabQ) r.prog w) M r.prog w os with
  | none => rw [e] at a; cases a
  | some s =>
    rw [e] at a b c
    have a' := Option.some.inj a
    have b' := Option.some.inj b
    have c' := Option.some.inj c
    exact congrArg some (Prod.ext a' (Prod.ext b' c'))
end
/-- a part of what the hook looks at -/
def RunP (r : PySem.W.OpenRow) (M : Nat) (w : World) (n : Nat) (fc : List Chk) (fn : List He.DefD) : Prop := ∀ os : OsState, (endR r M w os).map (fun s => obXG n fc fn (HandSHeadRun.getT s)) = some (He.valD fn)
theorem obXG_join {n : Nat} {fc fc' : List Chk} {fn fn' : List He.DefD} {g : Addr → Option Obj} (h : obXG n fc fn g = He.valD fn) (h' : obXG n fc' fn' g = He.valD fn') : obXG n (fc ++ fc') (fn ++ fn') g = He.valD (fn ++ fn') := by
  unfold obXG obX He.valD at *
  simp only [Prod.mk.injEq] at h h' ⊢
  obtain ⟨h1, h2⟩ := h
  obtain ⟨h3, h4⟩ := h'
  refine ⟨?_, by rw [List.map_append, List.map_append, h2, h4]⟩
  rw [Bool.and_eq_true] at h1 h3
  rw [List.all_append, List.all_append, h1.1, h1.2, h3.1, h3.2]
  rfl
theorem RunP.join {r : PySem.W.OpenRow} {M n : Nat} {w : World} {fc fc' : List Chk} {fn fn' : List He.DefD} (h : RunP r M w n fc fn) (h' : RunP r M w n fc' fn') : RunP r M w n (fc ++ fc') (fn ++ fn') := by
  intro os
  have a := h os
  have b := h' os
  cases e : endR r M w os with
  | none => rw [e] at a; cases a
  | some s =>
    rw [e] at a b
    exact congrArg some (obXG_join (Option.some.inj a) (Option.some.inj b))
end A

namespace A
local macro_rules | `(tactic| walk_at "A.go") => `(tactic| simp only [aSeq, aNext, aSet, aVar, atV_s, onB_b, onI_i, onII_i, onL1_i, onL2_i, it_l, it_t, it_s, it_x, ix_l, ix_t, ix_s, add_i, add_x, eq_i, eq_x, eq_b, is_b, aC, aNil, aCons, aOp, aUn, aTup, aLst, aCB, aNot, aAnd, aOr, aTst, aIfE, aAndV, aOrV, aNotV, aChn, aDrop, aRet, aRetN, aIf, agName, agNil, agCons, agTup, aAsg, aPar, aAug, aFor, aRng1, aRng2, aIter, aLc, aYes,
  aCl, aMt, aMk, aFl, aFst, aNeg, aI2, aI20, aLe, aLt, aGt, aGe, aSub, aMod, aMul, aFdv, aPow, aXor, aShl, aShr, agSub, aoN, aoS, aSl, aRev, aLen, aList, aTupOf, aLRg1, aLRg2, aAbs, aI2N, aMax, aMin, aDm, aAll, aAny, aBM, aApp, aPopAt, aPop, aClear, aRevM, aExt, aRepr, aClD, aLnSt, aIAdd, aBreak, aCont,
  aEnd, startA, List.map_cons, List.map_nil, List.cons_append, List.nil_append, List.length_cons, List.length_nil, List.replicate, List.getElem?_cons_zero, List.getElem?_cons_succ, List.set_cons_zero, List.set_cons_succ, Nat.reduceAdd, Nat.reduceSub, Nat.succ_eq_add_one, Int.reduceAdd, Int.reduceMul,
  reduceIte, Bool.false_eq_true, Bool.not_true, Bool.not_false, ite_true, ite_false])
/-! ## the looked-at part of the heap, grown with a mask of the addresses seen (eraseDups walks the whole list for each address: 5 GB of the kernel's memory) -/
open PySem PySem.Spec L2 PyProof.Rows He
/-- those not yet seen, each once; the mask with them -/
def newsC {α : Type} : List Addr → Nat → List Addr → (List Addr → Nat → α) → α
  | [], m, acc, k => k acc m
  | a :: r, m, acc, k => match Nat.land (Nat.shiftRight m a) 1 with
    | 0 => newsC r (Nat.lor m (Nat.shiftLeft 1 a)) (a :: acc) k
    | _ + 1 => newsC r m acc k
def refsY (g : Addr → Option Obj) (a : Addr) : List Addr := match g a with
  | some o => refsD o
  | none => []
def asYC (g : Addr → Option Obj) : Nat → List Addr → Nat → List Addr → List Addr
  | 0, _, _, all => all
  | n + 1, fr, m, all => newsC (fr.flatMap (refsY g)) m [] fun new m' => asYC g n new m' (all ++ new)
def asY (g : Addr → Option Obj) (n : Nat) : List Addr := newsC [mainGlobals, cStatics] 0 [] fun new m => asYC g n new m new
def obYG (n : Nat) (fc : List Chk) (fn : List DefD) (g : Addr → Option Obj) : AlD := obX fc fn (frG g (asY g n))
def hookY (n : Nat) (fc : List Chk) (fn : List DefD) : PySem.W.Hook where
  α := AlD
  obs := fun q => obYG n fc fn q.heap.get?
  val := fun _ => valD fn
  says := fun _ h => ∃ K : PySem.W.Frag, K.In h ∧ SaysX fc fn K
  of := fun _ _ he => ⟨_, frG_in, he⟩
  keeps := fun _ _ _ ⟨K, hK, z⟩ k => ⟨K, PySem.W.Frag.In.keeps hK k, z⟩
theorem obYG_eq {n : Nat} {fc : List Chk} {fn : List DefD} {g : Addr → Option Obj} {s : Shared} (h : ∀ a, g a = s.heap.get? a) : obYG n fc fn g = (hookY n fc fn).obs s := by
  have z : g = s.heap.get? := funext h
  rw [z]
  rfl
/-- a part of what the hook looks at -/
def RunQ (r : PySem.W.OpenRow) (M : Nat) (w : World) (n : Nat) (fc : List Chk) (fn : List He.DefD) : Prop := ∀ os : OsState, (endR r M w os).map (fun s => obYG n fc fn (HandSHeadRun.getT s)) = some (He.valD fn)
theorem obYG_join {n : Nat} {fc fc' : List Chk} {fn fn' : List He.DefD} {g : Addr → Option Obj} (h : obYG n fc fn g = He.valD fn) (h' : obYG n fc' fn' g = He.valD fn') : obYG n (fc ++ fc') (fn ++ fn') g = He.valD (fn ++ fn') := by
  unfold obYG obX He.valD at *
  simp only [Prod.mk.injEq] at h h' ⊢
  obtain ⟨h1, h2⟩ := h
  obtain ⟨h3, h4⟩ := h'
  refine ⟨?_, by rw [List.map_append, List.map_append, h2, h4]⟩
  rw [Bool.and_eq_true] at h1 h3
  rw [List.all_append, List.all_append, h1.1, h1.2, h3.1, h3.2]
  rfl
theorem RunQ.join {r : PySem.W.OpenRow} {M n : Nat} {w : World} {fc fc' : List Chk} {fn fn' : List He.DefD} (h : RunQ r M w n fc fn) (h' : RunQ r M w n fc' fn') : RunQ r M w n (fc ++ fc') (fn ++ fn') := by
  intro os
  have a := h os
  have b := h' os
  cases e : endR r M w os with
  | none => rw [e] at a; cases a
  | some s =>
    rw [e] at a b
    exact congrArg some (obYG_join (Option.some.inj a) (Option.some.inj b))
end A

namespace A
open PySem PySem.Spec L2 PyProof.Rows
local macro_rules | `(tactic| walk_at "A.go") => `(tactic| simp only [aSeq, aNext, aSet, aVar, atV_s, onB_b, onI_i, onII_i, onL1_i, onL2_i, it_l, it_t, it_s, it_x, ix_l, ix_t, ix_s, add_i, add_x, eq_i, eq_x, eq_b, is_b, aC, aNil, aCons, aOp, aUn, aTup, aLst, aCB, aNot, aAnd, aOr, aTst, aIfE, aAndV, aOrV, aNotV, aChn, aDrop, aRet, aRetN, aIf, agName, agNil, agCons, agTup, aAsg, aPar, aAug, aFor, aRng1, aRng2, aIter, aLc, aYes,
  aCl, aMt, aMk, aFl, aFst, aNeg, aI2, aI20, aLe, aLt, aGt, aGe, aSub, aMod, aMul, aFdv, aPow, aXor, aShl, aShr, agSub, aoN, aoS, aSl, aRev, aLen, aList, aTupOf, aLRg1, aLRg2, aAbs, aI2N, aMax, aMin, aDm, aAll, aAny, aBM, aApp, aPopAt, aPop, aClear, aRevM, aExt, aRepr, aClD, aLnSt, aIAdd, aBreak, aCont,
  aEnd, startA, List.map_cons, List.map_nil, List.cons_append, List.nil_append, List.length_cons, List.length_nil, List.replicate, List.getElem?_cons_zero, List.getElem?_cons_succ, List.set_cons_zero, List.set_cons_succ, Nat.reduceAdd, Nat.reduceSub, Nat.succ_eq_add_one, Int.reduceAdd, Int.reduceMul,
  reduceIte, Bool.false_eq_true, Bool.not_true, Bool.not_false, ite_true, ite_false])
/-! ### draws -/
def sp_take (K : PySem.W.Frag) : SpA := fun ds S Q E => ∃ p m, ds = [.own p, .int m] ∧ S p = some .pot ∧ 0 < m ∧ m < 2147483648 ∧ ∀ d, 0 ≤ d → d < m → Q (.int d) S
theorem len_take (K : PySem.W.Frag) : ∀ ds S Q E, sp_take K ds S Q E → ds.length = 2 := by rintro ds S Q E ⟨p, m, rfl, _⟩; rfl
def a_take (K : PySem.W.Frag) : AS := (aSeq (aIf (aTst (aOp aGt (aOp aIx (aVar 0) (aC (.int 0))) (aC (.int 0)))) (aSeq (aAsg (aCB aDm (aCons (aOp aIx (aVar 0) (aC (.int 0))) (aCons (aVar 1) aNil))) (agTup 2 (agCons (agSub (aVar 0) (aC (.int 0))) (agCons (agName 2) agNil))))
 (aRet (aVar 2))) aNext)
 (aSeq (aAsg (aOp aMod (aOp aAdd (aOp aMul (aOp aIx (aVar 0) (aC (.int 1))) (aC (.int 48271))) (aC (.int 10007))) (aC (.int 2147483587))) (agSub (aVar 0) (aC (.int 1))))
 (aRet (aOp aMod (aOp aFdv (aOp aMod (aOp aMul (aOp aIx (aVar 0) (aC (.int 1))) (aOp aIx (aVar 0) (aC (.int 1)))) (aC (.int 2147483563))) (aC (.int 3))) (aVar 1)))))
theorem law_take (K : PySem.W.Frag) : ∀ ds S Q E, sp_take K ds S Q E → a_take K (aEnd Q E) (startA ["_law_pot_here", "_law_many", "_law_digit"] ds) S := by
  rintro ds S Q E ⟨p, m, rfl, hp, m0, m1, q⟩
  unfold a_take
  walk_at "A.go"
  refine ix_pot hp fun x y h => ⟨x, rfl, ?_⟩
  walk_at "A.go"
  split
  · rename_i hx
    refine ix_pot hp fun x y h => ⟨x, rfl, ?_⟩
    walk_at "A.go"
    have hm : m.natAbs.log2 < 9000 := Nat.lt_of_lt_of_le (log2_small (k := 31) (by omega) (by decide)) (by decide)
    have h1 := Int.emod_nonneg x (show m ≠ 0 by omega)
    have h2 := Int.emod_lt_of_pos x m0
    have h0 := Int.ediv_nonneg h.1 (Int.le_of_lt m0)
    refine ⟨cdivp m0 hm, _, rfl, rfl, put_pot0 hp h0 ?_ ⟨rfl, ret (q _ h1 h2)⟩⟩
    refine log2_le (n := x.natAbs) ?_ h.2.1
    have h3 : x / m ≤ x := Int.ediv_le_self m h.1
    have h4 := h.1
    omega
  · refine ix_pot hp fun x y h => ⟨y, rfl, ?_⟩
    walk_at "A.go"
    obtain ⟨h1, h2, h3, h4⟩ := h
    have b1 := Int.emod_nonneg (y * 48271 + 10007) (show (2147483587 : Int) ≠ 0 by decide)
    have b2 := Int.emod_lt_of_pos (y * 48271 + 10007) (show (0 : Int) < 2147483587 by decide)
    refine ⟨.inr (by decide), by decide, put_pot1 hp b1 (by omega) (ix_pot hp fun x' y' h' => ⟨y', rfl, ix_pot hp fun x'' y'' h'' => ⟨y'', rfl, ?_⟩⟩)⟩
    walk_at "A.go"
    refine ⟨.inl ?_, by decide, ⟨by decide, by decide⟩, m0, ret (q _ (Int.emod_nonneg _ (by omega)) (Int.emod_lt_of_pos _ m0))⟩
    obtain ⟨_, _, g1, g2⟩ := h'
    exact ⟨by omega, by omega⟩
def sp_pot (K : PySem.W.Frag) : SpA := fun ds S Q E => ∃ ns k, ds = [.scr ns, .int k] ∧ 0 ≤ k ∧ k ≤ 100 ∧ Bits ns ∧ ∀ a, S a = none → Q (.own a) (put S a .pot)
theorem len_pot (K : PySem.W.Frag) : ∀ ds S Q E, sp_pot K ds S Q E → ds.length = 2 := by rintro ds S Q E ⟨p, m, rfl, _⟩; rfl
def a_pot (K : PySem.W.Frag) : AS := (aSeq (aSet 2 (aC (.int 0)))
 (aSeq (aIf (aTst (aOp aLt (aVar 1) (aCB aLen (aCons (aVar 0) aNil)))) (aSet 2 (aCB aAbs (aCons (aOp aIx (aVar 0) (aVar 1)) aNil))) aNext)
 (aRet (aLst (aCons (aCB aMax (aCons (aC (.int 0)) (aCons (aOp aSub (aVar 2) (aOp aPow (aC (.int 10)) (aC (.int 18)))) aNil))) (aCons (aOp aAdd (aOp aMod (aOp aPow (aOp aAdd (aOp aAdd (aOp aMod (aVar 2) (aC (.int 2147483549))) (aOp aMul (aC (.int 97)) (aVar 1))) (aC (.int 1))) (aC (.int 2))) (aC (.int 2147483543))) (aC (.int 1))) aNil))))))
theorem pot_ok {S : Sto} {Q : KD} {c k x : Int} (hc : 0 ≤ c) (hb : c.natAbs.log2 < 2 ^ 20 + 64) (k0 : 0 ≤ k) (k1 : k ≤ 100) (hx : 0 ≤ x ∧ x ≤ c) (q : ∀ a, S a = none → Q (.own a) (put S a .pot)) :
    CMul 97 k ∧ CPow (c % 2147483549 + 97 * k + 1) 2 ∧ (0 : Int) < 2147483543 ∧ 2 ≤ sizeLine ∧ NewL [D.int x, D.int ((c % 2147483549 + 97 * k + 1) ^ Int.toNat 2 % 2147483543 + 1)] S (Ret Q) := by
  have b1 := Int.emod_nonneg c (show (2147483549 : Int) ≠ 0 by decide)
  have b2 := Int.emod_lt_of_pos c (show (0 : Int) < 2147483549 by decide)
  have b3 := Int.emod_nonneg ((c % 2147483549 + 97 * k + 1) ^ Int.toNat 2) (show (2147483543 : Int) ≠ 0 by decide)
  have b4 := Int.emod_lt_of_pos ((c % 2147483549 + 97 * k + 1) ^ Int.toNat 2) (show (0 : Int) < 2147483543 by decide)
  refine ⟨.inl (by decide), ⟨by decide, by decide, by omega⟩, by decide, by rw [sizeLine_eq]; decide, .inr fun a ha => ret_gh (gh_pot put_same ⟨hx.1, log2_le (n := c.natAbs) (by omega) hb, by omega, by omega⟩) ?_⟩
  rw [put_put]
  exact q a ha
theorem law_pot (K : PySem.W.Frag) : ∀ ds S Q E, sp_pot K ds S Q E → a_pot K (aEnd Q E) (startA ["_law_script", "_law_k", "_law_cell"] ds) S := by
  rintro ds S Q E ⟨ns, k, rfl, k0, k1, hb, q⟩
  unfold a_pot
  walk_at "A.go"
  have p18 : CPow 10 18 := ⟨by decide, by decide, by decide⟩
  refine ⟨.scr ns, ns.length, rfl, rfl, ?_⟩
  split
  · rename_i h
    have hk : k < (ns.length : Int) := of_decide_eq_true h
    have hi : ns[k.toNat]? = some (ns[k.toNat]'(by omega)) := List.getElem?_eq_getElem (by omega)
    have hx : atI ns k = some (ns[k.toNat]'(by omega)) := by
      have := atI_nat hi
      rwa [show ((k.toNat : Nat) : Int) = k by omega] at this
    refine ⟨_, hx, p18, trivial, by decide, ?_⟩
    have hb' := hb _ (List.getElem_mem (show k.toNat < ns.length by omega))
    generalize ns[k.toNat]'(by omega) = x at hb' ⊢
    have hp : (0 : Int) < 10 ^ Int.toNat 18 := by decide
    generalize (10 : Int) ^ Int.toNat 18 = t at hp ⊢
    refine pot_ok (c := if x < 0 then -x else x) ?_ ?_ k0 k1 ?_ q
    · split <;> omega
    · exact log2_le (n := x.natAbs) (by split <;> omega) hb'
    · split <;> split <;> omega
  · refine ⟨p18, trivial, by decide, ?_⟩
    have hp : (0 : Int) < 10 ^ Int.toNat 18 := by decide
    generalize (10 : Int) ^ Int.toNat 18 = t at hp ⊢
    refine pot_ok (c := 0) (by decide) (by rw [show (0 : Int).natAbs.log2 = 0 by decide]; exact Nat.succ_pos _) k0 k1 ?_ q
    split <;> omega
/-! ### one of some, an order -/
theorem atI_ok {α : Type} {l : List α} {i : Int} (h0 : 0 ≤ i) (h1 : i < l.length) : atI l i = some (l[i.toNat]'(by omega)) := by
  have := atI_nat (xs := l) (List.getElem?_eq_getElem (show i.toNat < l.length by omega))
  rwa [show ((i.toNat : Nat) : Int) = i by omega] at this
end A

namespace A
open PySem PySem.Spec L2 PyProof.Rows
local macro_rules | `(tactic| walk_at "A.go") => `(tactic| simp only [aSeq, aNext, aSet, aVar, atV_s, onB_b, onI_i, onII_i, onL1_i, onL2_i, it_l, it_t, it_s, it_x, ix_l, ix_t, ix_s, add_i, add_x, eq_i, eq_x, eq_b, is_b, aC, aNil, aCons, aOp, aUn, aTup, aLst, aCB, aNot, aAnd, aOr, aTst, aIfE, aAndV, aOrV, aNotV, aChn, aDrop, aRet, aRetN, aIf, agName, agNil, agCons, agTup, aAsg, aPar, aAug, aFor, aRng1, aRng2, aIter, aLc, aYes,
  aCl, aMt, aMk, aFl, aFst, aNeg, aI2, aI20, aLe, aLt, aGt, aGe, aSub, aMod, aMul, aFdv, aPow, aXor, aShl, aShr, agSub, aoN, aoS, aSl, aRev, aLen, aList, aTupOf, aLRg1, aLRg2, aAbs, aI2N, aMax, aMin, aDm, aAll, aAny, aBM, aApp, aPopAt, aPop, aClear, aRevM, aExt, aRepr, aClD, aLnSt, aIAdd, aBreak, aCont,
  aEnd, startA, List.map_cons, List.map_nil, List.cons_append, List.nil_append, List.length_cons, List.length_nil, List.replicate, List.getElem?_cons_zero, List.getElem?_cons_succ, List.set_cons_zero, List.set_cons_succ, Nat.reduceAdd, Nat.reduceSub, Nat.succ_eq_add_one, Int.reduceAdd, Int.reduceMul,
  reduceIte, Bool.false_eq_true, Bool.not_true, Bool.not_false, ite_true, ite_false])
theorem NewL.ret {l : List D} {S : Sto} {Q : KD} (h : NewL l S Q) : NewL l S (Ret Q) := h.elim (fun q => .inl (A.ret q)) fun q => .inr fun a ha => A.ret (q a ha)
theorem rd_asL {S : Sto} {d : D} {l : List D} (n : Nat) (h : asL S d = some l) : rd S (n + 1) d = rd S (n + 1) (.lst l) := by
  cases d with
  | lst m => cases h; rfl
  | own a => exact rd_own (asL_inv h)
  | _ => cases h
end A

/-! ## ties: pieces, as labels -/
namespace A
local macro_rules | `(tactic| walk_at "A.go") => `(tactic| simp only [aSeq, aNext, aSet, aVar, atV_s, onB_b, onI_i, onII_i, onL1_i, onL2_i, it_l, it_t, it_s, it_x, ix_l, ix_t, ix_s, add_i, add_x, eq_i, eq_x, eq_b, is_b, aC, aNil, aCons, aOp, aUn, aTup, aLst, aCB, aNot, aAnd, aOr, aTst, aIfE, aAndV, aOrV, aNotV, aChn, aDrop, aRet, aRetN, aIf, agName, agNil, agCons, agTup, aAsg, aPar, aAug, aFor, aRng1, aRng2, aIter, aLc, aYes,
  aCl, aMt, aMk, aFl, aFst, aNeg, aI2, aI20, aLe, aLt, aGt, aGe, aSub, aMod, aMul, aFdv, aPow, aXor, aShl, aShr, agSub, aoN, aoS, aSl, aRev, aLen, aList, aTupOf, aLRg1, aLRg2, aAbs, aI2N, aMax, aMin, aDm, aAll, aAny, aBM, aApp, aPopAt, aPop, aClear, aRevM, aExt, aRepr, aClD, aLnSt, aIAdd, aBreak, aCont,
  aEnd, startA, List.map_cons, List.map_nil, List.cons_append, List.nil_append, List.length_cons, List.length_nil, List.replicate, List.getElem?_cons_zero, List.getElem?_cons_succ, List.set_cons_zero, List.set_cons_succ, Nat.reduceAdd, Nat.reduceSub, Nat.succ_eq_add_one, Int.reduceAdd, Int.reduceMul,
  reduceIte, Bool.false_eq_true, Bool.not_true, Bool.not_false, ite_true, ite_false])
abbrev Tie := Int × Int
def stepLab (lab : Int → Int) (e : Tie) : Int → Int := fun i => if lab i = lab e.1 then lab e.2 else lab i
def labs (es : List Tie) : Int → Int := es.foldl stepLab fun i => i
theorem labs_snoc (es : List Tie) (e : Tie) : labs (es ++ [e]) = stepLab (labs es) e := by unfold labs; rw [List.foldl_append]; rfl
/-- how many labels the places of L have -/
def cntS (n : Nat) (lab : Int → Int) (L : List Int) : Nat := ((rng n).filter fun x => L.any fun i => decide (lab i = x)).length
def cnt (n : Nat) (lab : Int → Int) : Nat := cntS n lab (rng n)
def InR (n : Nat) (i : Int) : Prop := 0 ≤ i ∧ i < n
def TiesIn (n : Nat) (es : List Tie) : Prop := ∀ e ∈ es, InR n e.1 ∧ InR n e.2
structure Good (n : Nat) (es : List Tie) (lab : Int → Int) : Prop where
  tie : ∀ e ∈ es, lab e.1 = lab e.2
  cls : ∀ P : Int → Prop, (∀ e ∈ es, P e.1 ↔ P e.2) → ∀ i j, InR n i → InR n j → lab i = lab j → P i → P j
  rg : ∀ i, InR n i → InR n (lab i)
theorem step_same {lab : Int → Int} {e : Tie} (h : lab e.1 = lab e.2) : stepLab lab e = lab := by
  funext i
  unfold stepLab
  split
  · rename_i q; rw [q, h]
  · rfl
theorem good_labs {n : Nat} {es : List Tie} (h : TiesIn n es) : Good n es (labs es) := by
  have main : ∀ (k : Nat) (es : List Tie), es.length = k → TiesIn n es → Good n es (labs es) := by
    intro k
    induction k with
    | zero =>
      intro es hk h
      have : es = [] := List.eq_nil_of_length_eq_zero hk
      subst this
      exact ⟨fun e he => (List.not_mem_nil he).elim, fun P hP i j _ _ e p => by cases (show i = j from e); exact p, fun i hi => hi⟩
    | succ k ih =>
      intro es hk h
      obtain ⟨es', e, rfl⟩ : ∃ es' e, es = es' ++ [e] := by
        have hne : es ≠ [] := by rintro rfl; cases hk
        exact ⟨es.dropLast, es.getLast hne, (List.dropLast_concat_getLast hne).symm⟩
      have hk' : es'.length = k := by simpa using hk
      have g := ih es' hk' fun x hx => h x (List.mem_append_left _ hx)
      have he := h e (List.mem_append_right _ List.mem_cons_self)
      rw [labs_snoc]
      generalize labs es' = lab at g ⊢
      refine ⟨fun x hx => ?_, fun P hP i j hi hj q p => ?_, fun i hi => ?_⟩
      · rcases List.mem_append.mp hx with hx | hx
        · unfold stepLab; rw [g.tie x hx]
        · rw [List.mem_singleton.mp hx]
          unfold stepLab
          rw [if_pos rfl]
          split <;> rfl
      · have hP' : ∀ x ∈ es', P x.1 ↔ P x.2 := fun x hx => hP x (List.mem_append_left _ hx)
        have hPe := hP e (List.mem_append_right _ List.mem_cons_self)
        have c := g.cls P hP'
        unfold stepLab at q
        by_cases h1 : lab i = lab e.1
        · have p1 : P e.1 := c i e.1 hi he.1 h1 p
          rw [if_pos h1] at q
          by_cases h2 : lab j = lab e.1
          · exact c e.1 j he.1 hj h2.symm p1
          · rw [if_neg h2] at q
            exact c e.2 j he.2 hj q (hPe.mp p1)
        · rw [if_neg h1] at q
          by_cases h2 : lab j = lab e.1
          · rw [if_pos h2] at q
            have p2 : P e.2 := c i e.2 hi he.2 q p
            exact c e.1 j he.1 hj h2.symm (hPe.mpr p2)
          · rw [if_neg h2] at q
            exact c i j hi hj q p
      · unfold stepLab
        split
        · exact g.rg _ he.2
        · exact g.rg _ hi
  exact main es.length es rfl h
theorem Good.mem {n : Nat} {es es' : List Tie} {lab : Int → Int} (g : Good n es lab) (h : ∀ e, e ∈ es ↔ e ∈ es') : Good n es' lab :=
  ⟨fun e he => g.tie e ((h e).mpr he), fun P hP => g.cls P fun e he => hP e ((h e).mp he), g.rg⟩
theorem mem_rngI {n : Nat} {i : Int} : i ∈ rng n ↔ InR n i := mem_rng
/-! ### counting -/
theorem filter_but {l : List Int} {p q : Int → Bool} {a : Int} (hn : l.Nodup) (ha : a ∈ l) (pa : p a = true) (qa : q a = false) (h : ∀ x ∈ l, x ≠ a → q x = p x) : (l.filter q).length + 1 = (l.filter p).length := by
  induction l with
  | nil => cases ha
  | cons b l ih =>
    have hn' := List.nodup_cons.mp hn
    by_cases e : b = a
    · subst e
      rw [List.filter_cons_of_pos pa, List.filter_cons_of_neg (by rw [qa]; exact Bool.false_ne_true)]
      have : l.filter q = l.filter p := List.filter_congr fun x hx => h x (List.mem_cons_of_mem _ hx) (by rintro rfl; exact hn'.1 hx)
      rw [this, List.length_cons]
    · have ha' : a ∈ l := by rcases List.mem_cons.mp ha with z | z; exact absurd z.symm e; exact z
      have hb := h b List.mem_cons_self e
      have ih' := ih hn'.2 ha' fun x hx => h x (List.mem_cons_of_mem _ hx)
      cases pb : p b with
      | true => rw [List.filter_cons_of_pos pb, List.filter_cons_of_pos (hb.trans pb), List.length_cons, List.length_cons]; omega
      | false => rw [List.filter_cons_of_neg (by rw [hb, pb]; exact Bool.false_ne_true), List.filter_cons_of_neg (by rw [pb]; exact Bool.false_ne_true)]; exact ih'
theorem any_lab {lab : Int → Int} {L : List Int} {x : Int} : (L.any fun i => decide (lab i = x)) = true ↔ ∃ i ∈ L, lab i = x := by
  rw [List.any_eq_true]
  constructor
  · rintro ⟨i, h, e⟩; exact ⟨i, h, of_decide_eq_true e⟩
  · rintro ⟨i, h, e⟩; exact ⟨i, h, decide_eq_true e⟩
theorem bool_iff {a b : Bool} (h : a = true ↔ b = true) : a = b := by cases a <;> cases b <;> simp_all
theorem cnt_union {n : Nat} {lab : Int → Int} {e : Tie} (h1 : InR n e.1) (h2 : InR n e.2) (hr : ∀ i, InR n i → InR n (lab i)) (ne : lab e.1 ≠ lab e.2) : cnt n (stepLab lab e) + 1 = cnt n lab := by
  unfold cnt cntS
  refine filter_but (a := lab e.1) rng_nodup (mem_rngI.mpr (hr _ h1)) (any_lab.mpr ⟨e.1, mem_rngI.mpr h1, rfl⟩) ?_ fun x hx hne => bool_iff ?_
  · refine Bool.eq_false_iff.mpr fun z => ?_
    obtain ⟨i, hi, q⟩ := any_lab.mp z
    unfold stepLab at q
    split at q
    · exact ne q.symm
    · rename_i w; exact w q
  · rw [any_lab, any_lab]
    constructor
    · rintro ⟨i, hi, q⟩
      unfold stepLab at q
      split at q
      · exact ⟨e.2, mem_rngI.mpr h2, q⟩
      · exact ⟨i, hi, q⟩
    · rintro ⟨i, hi, q⟩
      refine ⟨i, hi, ?_⟩
      unfold stepLab
      rw [if_neg (by rw [q]; exact hne)]
      exact q
theorem cnt_id {n : Nat} : cnt n (fun i => i) = n := by
  unfold cnt cntS
  rw [List.filter_eq_self.mpr fun x hx => any_lab.mpr ⟨x, hx, rfl⟩, rng_length]
/-! ### union and find -/
structure UF (n : Nat) (vs : List Int) (rt : Int → Int) (dep : Int → Nat) : Prop where
  len : vs.length = n
  up : ∀ i v, InR n i → vs[i.toNat]? = some v → InR n v ∧ rt v = rt i ∧ (v = i ↔ rt i = i) ∧ (v ≠ i → dep v < dep i)
  rg : ∀ i, InR n i → InR n (rt i) ∧ rt (rt i) = rt i
end A

/-! ## rows of bits: sums, and how many are free -/
namespace A
open PySem
local macro_rules | `(tactic| walk_at "A.go") => `(tactic| simp only [aSeq, aNext, aSet, aVar, atV_s, onB_b, onI_i, onII_i, onL1_i, onL2_i, it_l, it_t, it_s, it_x, ix_l, ix_t, ix_s, add_i, add_x, eq_i, eq_x, eq_b, is_b, aC, aNil, aCons, aOp, aUn, aTup, aLst, aCB, aNot, aAnd, aOr, aTst, aIfE, aAndV, aOrV, aNotV, aChn, aDrop, aRet, aRetN, aIf, agName, agNil, agCons, agTup, aAsg, aPar, aAug, aFor, aRng1, aRng2, aIter, aLc, aYes,
  aCl, aMt, aMk, aFl, aFst, aNeg, aI2, aI20, aLe, aLt, aGt, aGe, aSub, aMod, aMul, aFdv, aPow, aXor, aShl, aShr, agSub, aoN, aoS, aSl, aRev, aLen, aList, aTupOf, aLRg1, aLRg2, aAbs, aI2N, aMax, aMin, aDm, aAll, aAny, aBM, aApp, aPopAt, aPop, aClear, aRevM, aExt, aRepr, aClD, aLnSt, aIAdd, aBreak, aCont,
  aEnd, startA, List.map_cons, List.map_nil, List.cons_append, List.nil_append, List.length_cons, List.length_nil, List.replicate, List.getElem?_cons_zero, List.getElem?_cons_succ, List.set_cons_zero, List.set_cons_succ, Nat.reduceAdd, Nat.reduceSub, Nat.succ_eq_add_one, Int.reduceAdd, Int.reduceMul,
  reduceIte, Bool.false_eq_true, Bool.not_true, Bool.not_false, ite_true, ite_false])
def bl (n : Nat) : Nat := if n = 0 then 0 else n.log2 + 1
theorem bl_le {n k : Nat} : bl n ≤ k ↔ n < 2 ^ k := by
  unfold bl
  split
  · rename_i h
    subst h
    exact ⟨fun _ => Nat.pos_of_ne_zero (by simp), fun _ => Nat.zero_le _⟩
  · rename_i h
    rw [← Nat.log2_lt h]
    exact Iff.rfl
theorem bl_top {n j : Nat} (h : bl n = j + 1) : n.testBit j = true ∧ n < 2 ^ (j + 1) := by
  have h1 : n < 2 ^ (j + 1) := bl_le.mp (by omega)
  refine ⟨?_, h1⟩
  cases e : n.testBit j with
  | true => rfl
  | false =>
    have : n < 2 ^ j := Nat.lt_pow_two_of_testBit n fun i hi => by
      by_cases q : i = j
      · rw [q]; exact e
      · exact Nat.testBit_lt_two_pow (Nat.lt_of_lt_of_le h1 (Nat.pow_le_pow_right (by decide) (by omega)))
    have := bl_le.mpr this
    omega
theorem bl_pos {n : Nat} (h : n ≠ 0) : 0 < bl n := by unfold bl; rw [if_neg h]; exact Nat.succ_pos _
theorem bl_xor_eq {x y : Nat} (hx : x ≠ 0) (h : bl x = bl y) : bl (x ^^^ y) < bl x := by
  obtain ⟨j, hj⟩ : ∃ j, bl x = j + 1 := ⟨bl x - 1, by have := bl_pos hx; omega⟩
  obtain ⟨a1, a2⟩ := bl_top hj
  obtain ⟨b1, b2⟩ := bl_top (h.symm.trans hj)
  have : x ^^^ y < 2 ^ j := Nat.lt_pow_two_of_testBit _ fun i hi => by
    rw [Nat.testBit_xor]
    by_cases q : i = j
    · rw [q, a1, b1]; rfl
    · have le : 2 ^ (j + 1) ≤ 2 ^ i := Nat.pow_le_pow_right (by decide) (by omega)
      rw [Nat.testBit_lt_two_pow (Nat.lt_of_lt_of_le a2 le), Nat.testBit_lt_two_pow (Nat.lt_of_lt_of_le b2 le)]; rfl
  have := bl_le.mpr this
  omega
theorem bl_xor_lt {x y : Nat} (h : bl x < bl y) : bl (x ^^^ y) = bl y := by
  obtain ⟨j, hj⟩ : ∃ j, bl y = j + 1 := ⟨bl y - 1, by omega⟩
  obtain ⟨b1, b2⟩ := bl_top hj
  have hx : x < 2 ^ j := bl_le.mp (by omega)
  have h1 : x ^^^ y < 2 ^ (j + 1) := Nat.xor_lt_two_pow (Nat.lt_of_lt_of_le hx (Nat.pow_le_pow_right (by decide) (by omega))) b2
  have h2 := bl_le.mpr h1
  by_cases q : bl (x ^^^ y) ≤ j
  · have := Nat.testBit_lt_two_pow (bl_le.mp q)
    rw [Nat.testBit_xor, Nat.testBit_lt_two_pow hx, b1] at this
    cases this
  · omega
theorem bl_xor_gt {x y : Nat} (h : bl y < bl x) : bl (x ^^^ y) = bl x := by rw [Nat.xor_comm]; exact bl_xor_lt h
/-- x is a sum of some of the rows (the last one first) -/
def Spn : List Nat → Nat → Prop
  | [], x => x = 0
  | r :: l, x => Spn l x ∨ Spn l (x ^^^ r)
instance : ∀ (l : List Nat) (x : Nat), Decidable (Spn l x)
  | [], x => inferInstanceAs (Decidable (x = 0))
  | r :: l, x => @instDecidableOr _ _ (instDecidableSpn l x) (instDecidableSpn l (x ^^^ r))
/-- how many rows are no sums of those ahead of them -/
def rk : List Nat → Nat
  | [] => 0
  | r :: l => rk l + if Spn l r then 0 else 1
theorem xor_xor_self (x y : Nat) : x ^^^ y ^^^ y = x := by rw [Nat.xor_assoc, Nat.xor_self, Nat.xor_zero]
theorem spn_zero : ∀ l : List Nat, Spn l 0
  | [] => rfl
  | _ :: l => .inl (spn_zero l)
theorem spn_xor : ∀ {l : List Nat} {x y : Nat}, Spn l x → Spn l y → Spn l (x ^^^ y)
  | [], _, _, hx, hy => by
    have hx : _ = 0 := hx
    have hy : _ = 0 := hy
    subst hx hy
    rfl
  | r :: l, x, y, .inl hx, .inl hy => .inl (spn_xor hx hy)
  | r :: l, x, y, .inl hx, .inr hy => .inr (by rw [Nat.xor_assoc]; exact spn_xor hx hy)
  | r :: l, x, y, .inr hx, .inl hy => .inr (by
      have := spn_xor hx hy
      rwa [Nat.xor_assoc, Nat.xor_comm r y, ← Nat.xor_assoc] at this)
  | r :: l, x, y, .inr hx, .inr hy => .inl (by
      have := spn_xor hx hy
      rwa [Nat.xor_assoc, ← Nat.xor_assoc r y r, Nat.xor_comm r y, xor_xor_self] at this)
theorem spn_back {l : List Nat} {x r : Nat} (h : Spn l (x ^^^ r)) (hr : Spn l r) : Spn l x := by
  have := spn_xor h hr
  rwa [xor_xor_self] at this
/-- the rows kept, by how many bits they have -/
structure Red (l : List Nat) (fr : List (Nat × Nat)) : Prop where
  nd : (fr.map (·.1)).Nodup
  bit : ∀ p ∈ fr, p.2 ≠ 0 ∧ bl p.2 = p.1 ∧ Spn l p.2
  all : ∀ x, Spn l x → x ≠ 0 → bl x ∈ fr.map (·.1)
  len : fr.length = rk l
theorem red_nil : Red [] [] := ⟨List.nodup_nil, fun _ h => (List.not_mem_nil h).elim, fun x h n => (n h).elim, rfl⟩
/-- a row that came down to 0 is a sum -/
theorem red_sum {l : List Nat} {fr : List (Nat × Nat)} {r : Nat} (R : Red l fr) (h : Spn l r) : Red (r :: l) fr :=
  ⟨R.nd, fun p hp => ⟨(R.bit p hp).1, (R.bit p hp).2.1, .inl (R.bit p hp).2.2⟩, fun x hx n => R.all x (by
    rcases hx with hx | hx
    · exact hx
    · exact spn_back hx h) n, by show _ = rk l + _; rw [if_pos h]; exact R.len⟩
theorem red_new {l : List Nat} {fr : List (Nat × Nat)} {r r' : Nat} (R : Red l fr) (h : Spn l (r ^^^ r')) (n : r' ≠ 0) (hb : bl r' ∉ fr.map (·.1)) : Red (r :: l) (fr ++ [(bl r', r')]) := by
  have hr : ¬ Spn l r := fun z => hb (R.all r' (by
    have := spn_xor h z
    rwa [Nat.xor_comm r r', xor_xor_self] at this) n)
  refine ⟨?_, fun p hp => ?_, fun x hx nx => ?_, ?_⟩
  · rw [List.map_append, List.nodup_append]
    refine ⟨R.nd, by simp, fun a ha b hb' => ?_⟩
    have : b = bl r' := by simpa using hb'
    subst this
    rintro rfl
    exact hb ha
  · rcases List.mem_append.mp hp with hp | hp
    · exact ⟨(R.bit p hp).1, (R.bit p hp).2.1, .inl (R.bit p hp).2.2⟩
    · rw [List.mem_singleton.mp hp]
      exact ⟨n, rfl, .inr (by rw [Nat.xor_comm]; exact h)⟩
  · rw [List.map_append]
    by_cases e : bl x = bl r'
    · rw [e]; exact List.mem_append_right _ (by simp)
    · refine List.mem_append_left _ ?_
      rcases hx with hx | hx
      · exact R.all x hx nx
      · have hx' : Spn l (x ^^^ r') := by
          have := spn_xor hx h
          rwa [Nat.xor_assoc, ← Nat.xor_assoc r r r', Nat.xor_self, Nat.zero_xor] at this
        have nz : x ^^^ r' ≠ 0 := fun z => e (by
          have h9 := xor_xor_self x r'
          rw [z, Nat.zero_xor] at h9
          rw [h9])
        have hm := R.all _ hx' nz
        rcases Nat.lt_or_gt_of_ne e with q | q
        · rw [bl_xor_lt q] at hm; exact (hb hm).elim
        · rw [bl_xor_gt q] at hm; exact hm
  · rw [List.length_append, R.len]
    show _ = rk l + _
    rw [if_neg hr]
    rfl
end A

/-! ## seats: who sits where, and the least bound -/
namespace A
local macro_rules | `(tactic| walk_at "A.go") => `(tactic| simp only [aSeq, aNext, aSet, aVar, atV_s, onB_b, onI_i, onII_i, onL1_i, onL2_i, it_l, it_t, it_s, it_x, ix_l, ix_t, ix_s, add_i, add_x, eq_i, eq_x, eq_b, is_b, aC, aNil, aCons, aOp, aUn, aTup, aLst, aCB, aNot, aAnd, aOr, aTst, aIfE, aAndV, aOrV, aNotV, aChn, aDrop, aRet, aRetN, aIf, agName, agNil, agCons, agTup, aAsg, aPar, aAug, aFor, aRng1, aRng2, aIter, aLc, aYes,
  aCl, aMt, aMk, aFl, aFst, aNeg, aI2, aI20, aLe, aLt, aGt, aGe, aSub, aMod, aMul, aFdv, aPow, aXor, aShl, aShr, agSub, aoN, aoS, aSl, aRev, aLen, aList, aTupOf, aLRg1, aLRg2, aAbs, aI2N, aMax, aMin, aDm, aAll, aAny, aBM, aApp, aPopAt, aPop, aClear, aRevM, aExt, aRepr, aClD, aLnSt, aIAdd, aBreak, aCont,
  aEnd, startA, List.map_cons, List.map_nil, List.cons_append, List.nil_append, List.length_cons, List.length_nil, List.replicate, List.getElem?_cons_zero, List.getElem?_cons_succ, List.set_cons_zero, List.set_cons_succ, Nat.reduceAdd, Nat.reduceSub, Nat.succ_eq_add_one, Int.reduceAdd, Int.reduceMul,
  reduceIte, Bool.false_eq_true, Bool.not_true, Bool.not_false, ite_true, ite_false])
theorem sub_len : ∀ {l m : List Int}, l.Nodup → (∀ x ∈ l, x ∈ m) → l.length ≤ m.length
  | [], _, _, _ => Nat.zero_le _
  | a :: l, m, hn, hs => by
    have hn' := List.nodup_cons.mp hn
    have ha := hs a List.mem_cons_self
    have := sub_len (l := l) (m := m.erase a) hn'.2 fun x hx => (List.mem_erase_of_ne (by rintro rfl; exact hn'.1 hx)).mpr (hs x (List.mem_cons_of_mem _ hx))
    rw [List.length_erase_of_mem ha] at this
    have := List.length_pos_of_mem ha
    rw [List.length_cons]
    omega
theorem min_ex (P : Nat → Prop) (h : ∃ n, P n) : ∃ n, P n ∧ ∀ m, P m → n ≤ m := by
  obtain ⟨n, hn⟩ := h
  induction n using Nat.strongRecOn with
  | ind n ih =>
    by_cases q : ∃ m, m < n ∧ P m
    · obtain ⟨m, lt, pm⟩ := q
      exact ih m lt pm
    · exact ⟨n, hn, fun m pm => Nat.le_of_not_lt fun lt => q ⟨m, lt, pm⟩⟩
def inT (T l : List Int) : Bool := l.all fun s => decide (s ∈ T)
theorem inT_iff {T l : List Int} : inT T l = true ↔ ∀ s ∈ l, s ∈ T := by unfold inT; simp
/-- the seats T, and the rows that aren't within them -/
def bd (Rs : List (List Int)) (T : List Int) : Nat := T.length + (Rs.filter fun r => !inT T r).length
noncomputable def worthS (Rs : List (List Int)) : Nat := Classical.choose (min_ex (fun v => ∃ T : List Int, T.Nodup ∧ v = bd Rs T) ⟨_, [], List.nodup_nil, rfl⟩)
theorem worthS_spec (Rs : List (List Int)) : (∃ T : List Int, T.Nodup ∧ worthS Rs = bd Rs T) ∧ ∀ T : List Int, T.Nodup → worthS Rs ≤ bd Rs T := by
  have h := Classical.choose_spec (min_ex (fun v => ∃ T : List Int, T.Nodup ∧ v = bd Rs T) ⟨_, [], List.nodup_nil, rfl⟩)
  exact ⟨h.1, fun T hT => h.2 _ ⟨T, hT, rfl⟩⟩
theorem worthS_is {Rs : List (List Int)} {v : Nat} {T : List Int} (hT : T.Nodup) (e : v = bd Rs T) (h : ∀ T : List Int, T.Nodup → v ≤ bd Rs T) : worthS Rs = v := by
  obtain ⟨⟨T', h1, h2⟩, h3⟩ := worthS_spec Rs
  have a := h3 T hT
  have b := h T' h1
  omega
theorem bd_perm {Rs Rs' : List (List Int)} (h : Rs.Perm Rs') (T : List Int) : bd Rs T = bd Rs' T := by
  unfold bd
  rw [(h.filter _).length_eq]
theorem worthS_perm {Rs Rs' : List (List Int)} (h : Rs.Perm Rs') : worthS Rs = worthS Rs' := by
  obtain ⟨⟨T, h1, h2⟩, h3⟩ := worthS_spec Rs'
  exact worthS_is h1 (by rw [h2, bd_perm h]) fun T hT => by rw [bd_perm h]; exact h3 T hT
theorem bd_cons {Rs : List (List Int)} {r T : List Int} : bd (r :: Rs) T = bd Rs T + if inT T r then 0 else 1 := by
  unfold bd
  rw [List.filter_cons]
  cases inT T r with
  | true => simp
  | false => simp; omega
abbrev Mt := List (Int × Int)
structure MOk (row : Int → List Int) (H : List Int) (M : Mt) : Prop where
  kn : (M.map (·.1)).Nodup
  vn : (M.map (·.2)).Nodup
  ok : ∀ p ∈ M, p.2 ∈ H ∧ p.1 ∈ row p.2
theorem filter_split {α : Type} (p : α → Bool) : ∀ l : List α, l.length = (l.filter p).length + (l.filter fun x => !p x).length
  | [] => rfl
  | a :: l => by
    have ih := filter_split p l
    rw [List.filter_cons, List.filter_cons]
    cases h : p a with
    | true => simp; omega
    | false => simp; omega
theorem nodup_map_filter {α β : Type} {f : α → β} {l : List α} {p : α → Bool} (h : (l.map f).Nodup) : ((l.filter p).map f).Nodup := h.sublist (List.Sublist.map f List.filter_sublist)
section
variable {row : Int → List Int} {H : List Int} {M : Mt}
def iT (T : List Int) : Int × Int → Bool := fun p => decide (p.1 ∈ T)
theorem part1 (m : MOk row H M) (T : List Int) : (M.filter (iT T)).length ≤ T.length := by
  have := sub_len (l := (M.filter (iT T)).map (·.1)) (m := T) (nodup_map_filter m.kn) fun x hx => by
    obtain ⟨p, hp, rfl⟩ := List.mem_map.mp hx
    exact of_decide_eq_true (List.mem_filter.mp hp).2
  rwa [List.length_map] at this
theorem part2 (m : MOk row H M) (T : List Int) : ((M.filter fun p => !iT T p).length) ≤ (H.filter fun t => !inT T (row t)).length := by
  have := sub_len (l := (M.filter fun p => !iT T p).map (·.2)) (m := H.filter fun t => !inT T (row t)) (nodup_map_filter m.vn) fun x hx => by
    obtain ⟨p, hp, rfl⟩ := List.mem_map.mp hx
    obtain ⟨h1, h2⟩ := List.mem_filter.mp hp
    obtain ⟨g1, g2⟩ := m.ok p h1
    refine List.mem_filter.mpr ⟨g1, ?_⟩
    cases e : inT T (row p.2) with
    | false => rfl
    | true =>
      have := inT_iff.mp e p.1 g2
      unfold iT at h2
      rw [decide_eq_true this] at h2
      cases h2
  rwa [List.length_map] at this
theorem bd_map {T : List Int} : bd (H.map row) T = T.length + (H.filter fun t => !inT T (row t)).length := by
  unfold bd
  rw [List.filter_map, List.length_map]
  rfl
theorem ub (m : MOk row H M) (T : List Int) : M.length ≤ bd (H.map row) T := by
  rw [bd_map, filter_split (iT T) M]
  have := part1 m T
  have := part2 m T
  omega
end
/-- as many as can sit, so far -/
structure SInv (row : Int → List Int) (H : List Int) (M : Mt) : Prop where
  nd : H.Nodup
  ok : MOk row H M
  tight : ∃ T : List Int, T.Nodup ∧ M.length = bd (H.map row) T
theorem SInv.worth {row : Int → List Int} {H : List Int} {M : Mt} (h : SInv row H M) : worthS (H.map row) = M.length := by
  obtain ⟨T, hT, e⟩ := h.tight
  exact worthS_is hT e fun T' _ => ub h.ok T'
/-- what one search may do: it found a seat -/
structure Suc (row : Int → List Int) (tr : List Int) (M : Mt) (t : Int) (M' : Mt) : Prop where
  kn : (M'.map (·.1)).Nodup
  ed : ∀ p ∈ M', p.1 ∈ row p.2
  len : M'.length = M.length + 1
  st : ∀ s ∈ tr, ∀ a, (s, a) ∈ M' ↔ (s, a) ∈ M
  fr : ∀ p ∈ M', p.1 ∉ tr → p.2 = t ∨ ∃ q ∈ M, q.1 ∉ tr ∧ q.2 = p.2
  inj : ∀ p ∈ M', ∀ q ∈ M', p.1 ∉ tr → q.1 ∉ tr → p.2 = q.2 → p.1 = q.1
/-- .. it found none -/
structure Fai (row : Int → List Int) (tr : List Int) (M : Mt) (rw : List Int) (tr' : List Int) : Prop where
  sub : ∀ s ∈ tr, s ∈ tr'
  rws : ∀ s ∈ rw, s ∈ tr'
  cls : ∀ s ∈ tr', s ∉ tr → ∃ a, (s, a) ∈ M ∧ ∀ x ∈ row a, x ∈ tr'
/-- what it begins with -/
structure Beg (row : Int → List Int) (tr : List Int) (M : Mt) (t : Int) : Prop where
  kn : (M.map (·.1)).Nodup
  ed : ∀ p ∈ M, p.1 ∈ row p.2
  inj : ∀ p ∈ M, ∀ q ∈ M, p.1 ∉ tr → q.1 ∉ tr → p.2 = q.2 → p.1 = q.1
  no : ∀ p ∈ M, p.1 ∉ tr → p.2 ≠ t
section
variable {row : Int → List Int} {H tr tr1 tr2 rw : List Int} {M M' M2 : Mt} {t s a : Int}
end
end A

namespace A
local macro_rules | `(tactic| walk_at "A.go") => `(tactic| simp only [aSeq, aNext, aSet, aVar, atV_s, onB_b, onI_i, onII_i, onL1_i, onL2_i, it_l, it_t, it_s, it_x, ix_l, ix_t, ix_s, add_i, add_x, eq_i, eq_x, eq_b, is_b, aC, aNil, aCons, aOp, aUn, aTup, aLst, aCB, aNot, aAnd, aOr, aTst, aIfE, aAndV, aOrV, aNotV, aChn, aDrop, aRet, aRetN, aIf, agName, agNil, agCons, agTup, aAsg, aPar, aAug, aFor, aRng1, aRng2, aIter, aLc, aYes,
  aCl, aMt, aMk, aFl, aFst, aNeg, aI2, aI20, aLe, aLt, aGt, aGe, aSub, aMod, aMul, aFdv, aPow, aXor, aShl, aShr, agSub, aoN, aoS, aSl, aRev, aLen, aList, aTupOf, aLRg1, aLRg2, aAbs, aI2N, aMax, aMin, aDm, aAll, aAny, aBM, aApp, aPopAt, aPop, aClear, aRevM, aExt, aRepr, aClD, aLnSt, aIAdd, aBreak, aCont,
  aEnd, startA, List.map_cons, List.map_nil, List.cons_append, List.nil_append, List.length_cons, List.length_nil, List.replicate, List.getElem?_cons_zero, List.getElem?_cons_succ, List.set_cons_zero, List.set_cons_succ, Nat.reduceAdd, Nat.reduceSub, Nat.succ_eq_add_one, Int.reduceAdd, Int.reduceMul,
  reduceIte, Bool.false_eq_true, Bool.not_true, Bool.not_false, ite_true, ite_false])
/-! ### rows: the law's own way, each made lesser by those kept -/
theorem spn_swap {a b : Nat} {l : List Nat} {x : Nat} (h : Spn (a :: b :: l) x) : Spn (b :: a :: l) x := by
  rcases h with (h | h) | (h | h)
  · exact .inl (.inl h)
  · exact .inr (.inl h)
  · exact .inl (.inr h)
  · refine .inr (.inr ?_)
    rwa [Nat.xor_assoc, Nat.xor_comm b a, ← Nat.xor_assoc]
theorem spn_perm {l m : List Nat} (h : l.Perm m) : ∀ x, Spn l x → Spn m x := by
  induction h with
  | nil => exact fun x h => h
  | cons a _ ih => exact fun x h => h.elim (fun z => .inl (ih x z)) fun z => .inr (ih _ z)
  | swap a b l => exact fun x h => spn_swap h
  | trans _ _ ih1 ih2 => exact fun x h => ih2 x (ih1 x h)
theorem red_ex : ∀ l : List Nat, ∃ fr, Red l fr
  | [] => ⟨[], red_nil⟩
  | r :: l => by
    obtain ⟨fr, R⟩ := red_ex l
    have main : ∀ (k r' : Nat), bl r' ≤ k → Spn l (r ^^^ r') → ∃ fr', Red (r :: l) fr' := by
      intro k
      induction k with
      | zero =>
        intro r' hk h
        have : r' = 0 := by
          have := bl_le.mp hk
          simpa using this
        subst this
        exact ⟨fr, red_sum R (by rwa [Nat.xor_zero] at h)⟩
      | succ k ih =>
        intro r' hk h
        by_cases z : r' = 0
        · subst z
          exact ⟨fr, red_sum R (by rwa [Nat.xor_zero] at h)⟩
        · by_cases hb : bl r' ∈ fr.map (·.1)
          · obtain ⟨p, hp, e⟩ := List.mem_map.mp hb
            obtain ⟨g1, g2, g3⟩ := R.bit p hp
            refine ih (r' ^^^ p.2) ?_ ?_
            · have := bl_xor_eq z (y := p.2) (by rw [g2]; exact e.symm)
              omega
            · rw [← Nat.xor_assoc]
              exact spn_xor h g3
          · exact ⟨_, red_new R h z hb⟩
    exact main (bl r) r (Nat.le_refl _) (by rw [Nat.xor_self]; exact spn_zero l)
theorem nodup_castM {l : List Nat} (h : l.Nodup) : (l.map fun (n : Nat) => (n : Int)).Nodup := List.Pairwise.map _ (fun a b (q : a ≠ b) z => q (by omega)) h
theorem red_len {l m : List Nat} {fr gr : List (Nat × Nat)} (R : Red l fr) (G : Red m gr) (h : ∀ x, Spn l x → Spn m x) : fr.length ≤ gr.length := by
  have := sub_len (l := (fr.map (·.1)).map fun (n : Nat) => (n : Int)) (m := (gr.map (·.1)).map fun (n : Nat) => (n : Int)) (nodup_castM R.nd) fun x hx => by
    obtain ⟨n, hn, rfl⟩ := List.mem_map.mp hx
    obtain ⟨p, hp, rfl⟩ := List.mem_map.mp hn
    obtain ⟨g1, g2, g3⟩ := R.bit p hp
    exact List.mem_map.mpr ⟨_, G.all _ (h _ g3) g1, by rw [g2]⟩
  simpa using this
theorem rk_le {l m : List Nat} (h : ∀ x, Spn l x → Spn m x) : rk l ≤ rk m := by
  obtain ⟨fr, R⟩ := red_ex l
  obtain ⟨gr, G⟩ := red_ex m
  rw [← R.len, ← G.len]
  exact red_len R G h
theorem rk_perm {l m : List Nat} (h : l.Perm m) : rk l = rk m := Nat.le_antisymm (rk_le (spn_perm h)) (rk_le (spn_perm h.symm))
/-- the lead bit -/
def lead (n : Nat) : Nat := bl n - 1
/-- r, made lesser by each of those kept -/
def lesser (r : Nat) (fo : List Nat) : Nat := fo.foldl (fun r o => min r (r ^^^ o)) r
/-- those kept: each has no lead bit of an elder one -/
structure Kept (l fo : List Nat) : Prop where
  nz : ∀ o ∈ fo, o ≠ 0
  pw : fo.Pairwise fun o u => u.testBit (lead o) = false
  red : Red l (fo.map fun o => (bl o, o))
/-! ### ties: the number of pieces does not depend on the labels -/
theorem good_eq {n : Nat} {es : List Tie} {lab lab' : Int → Int} (g : Good n es lab) (g' : Good n es lab') {i j : Int} (hi : InR n i) (hj : InR n j) (h : lab i = lab j) : lab' i = lab' j :=
  (g.cls (fun x => lab' x = lab' i) (fun e he => by rw [g'.tie e he]) i j hi hj h rfl).symm
theorem cnt_le {n : Nat} {lab lab' : Int → Int} (r : ∀ i, InR n i → InR n (lab' i)) (h : ∀ i j, InR n i → InR n j → lab' i = lab' j → lab i = lab j) : cnt n lab ≤ cnt n lab' := by
  unfold cnt cntS
  have rep : ∀ x : Int, ∃ i : Int, (∃ i, InR n i ∧ lab i = x) → InR n i ∧ lab i = x := fun x => by
    by_cases q : ∃ i, InR n i ∧ lab i = x
    · obtain ⟨i, hi⟩ := q; exact ⟨i, fun _ => hi⟩
    · exact ⟨0, fun z => (q z).elim⟩
  obtain ⟨f, hf⟩ := Classical.axiomOfChoice rep
  have ex : ∀ x ∈ (rng n).filter fun x => (rng n).any fun i => decide (lab i = x), InR n (f x) ∧ lab (f x) = x := fun x hx => by
    obtain ⟨_, h2⟩ := List.mem_filter.mp hx
    obtain ⟨i, h3, h4⟩ := any_lab.mp h2
    exact hf x ⟨i, mem_rngI.mp h3, h4⟩
  generalize hL : ((rng n).filter fun x => (rng n).any fun i => decide (lab i = x)) = L at ex
  have nL : L.Nodup := by rw [← hL]; exact rng_nodup.sublist List.filter_sublist
  have := sub_len (l := L.map fun x => lab' (f x)) (m := (rng n).filter fun x => (rng n).any fun i => decide (lab' i = x)) ?_ ?_
  · rwa [List.length_map] at this
  · clear hL
    induction L with
    | nil => exact List.nodup_nil
    | cons x L ih =>
      have nn := List.nodup_cons.mp nL
      refine List.nodup_cons.mpr ⟨fun z => ?_, ih (fun y hy => ex y (List.mem_cons_of_mem _ hy)) nn.2⟩
      obtain ⟨y, hy, e⟩ := List.mem_map.mp z
      obtain ⟨a1, a2⟩ := ex x List.mem_cons_self
      obtain ⟨b1, b2⟩ := ex y (List.mem_cons_of_mem _ hy)
      have := h _ _ b1 a1 e
      rw [a2, b2] at this
      subst this
      exact nn.1 hy
  · intro y hy
    obtain ⟨x, hx, rfl⟩ := List.mem_map.mp hy
    obtain ⟨a1, a2⟩ := ex x hx
    exact List.mem_filter.mpr ⟨mem_rngI.mpr (r _ a1), any_lab.mpr ⟨_, mem_rngI.mpr a1, rfl⟩⟩
theorem cnt_good {n : Nat} {es : List Tie} {lab lab' : Int → Int} (g : Good n es lab) (g' : Good n es lab') : cnt n lab = cnt n lab' :=
  Nat.le_antisymm (cnt_le g'.rg fun _ _ hi hj h => good_eq g' g hi hj h) (cnt_le g.rg fun _ _ hi hj h => good_eq g g' hi hj h)
theorem cnt_perm {n : Nat} {es es' : List Tie} (h : es.Perm es') (t : TiesIn n es) : cnt n (labs es) = cnt n (labs es') :=
  cnt_good ((good_labs t).mem fun e => h.mem_iff) (good_labs fun e he => t e (h.mem_iff.mpr he))
end A

/-! ## yards of the four sorts: the data -/
namespace A
open PySem PySem.Spec L2 PyProof.Rows
local macro_rules | `(tactic| walk_at "A.go") => `(tactic| simp only [aSeq, aNext, aSet, aVar, atV_s, onB_b, onI_i, onII_i, onL1_i, onL2_i, it_l, it_t, it_s, it_x, ix_l, ix_t, ix_s, add_i, add_x, eq_i, eq_x, eq_b, is_b, aC, aNil, aCons, aOp, aUn, aTup, aLst, aCB, aNot, aAnd, aOr, aTst, aIfE, aAndV, aOrV, aNotV, aChn, aDrop, aRet, aRetN, aIf, agName, agNil, agCons, agTup, aAsg, aPar, aAug, aFor, aRng1, aRng2, aIter, aLc, aYes,
  aCl, aMt, aMk, aFl, aFst, aNeg, aI2, aI20, aLe, aLt, aGt, aGe, aSub, aMod, aMul, aFdv, aPow, aXor, aShl, aShr, agSub, aoN, aoS, aSl, aRev, aLen, aList, aTupOf, aLRg1, aLRg2, aAbs, aI2N, aMax, aMin, aDm, aAll, aAny, aBM, aApp, aPopAt, aPop, aClear, aRevM, aExt, aRepr, aClD, aLnSt, aIAdd, aBreak, aCont,
  aEnd, startA, List.map_cons, List.map_nil, List.cons_append, List.nil_append, List.length_cons, List.length_nil, List.replicate, List.getElem?_cons_zero, List.getElem?_cons_succ, List.set_cons_zero, List.set_cons_succ, Nat.reduceAdd, Nat.reduceSub, Nat.succ_eq_add_one, Int.reduceAdd, Int.reduceMul,
  reduceIte, Bool.false_eq_true, Bool.not_true, Bool.not_false, ite_true, ite_false])
inductive So where
  | ties | rows | lots | seats
  deriving DecidableEq
def So.nm : So → Str
  | .ties => "Ties"
  | .rows => "Rows"
  | .lots => "Lots"
  | .seats => "Seats"
def allSo : List So := [.ties, .rows, .lots, .seats]
theorem all_so (s : So) : s ∈ allSo := by cases s <;> decide
def So.eq : So → So → Bool
  | .ties, .ties | .rows, .rows | .lots, .lots | .seats, .seats => true
  | _, _ => false
def So.cls (K : PySem.W.Frag) (s : So) : Addr := He.ga K s.nm
def hasSo (K : PySem.W.Frag) (s : So) : Bool := kGlo s.nm K
/-- the sorts that the law's program has -/
def sorts (K : PySem.W.Frag) : List So := allSo.filter (hasSo K)
def okL (l : List So) (K : PySem.W.Frag) (C : Addr) : Prop := ∃ s ∈ l, s ∈ sorts K ∧ C = s.cls K
abbrev okY := okL allSo
def bty : List String := ["NoneType", "bool", "int", "str", "list", "tuple"]
/-- what the classes are to one another and to the built-in types -/
def Kf (K : PySem.W.Frag) : Prop := (∀ s ∈ sorts K, ∀ t ∈ allSo, s ≠ t → s.cls K ≠ t.cls K) ∧ (∀ s ∈ sorts K, PySem.W.kitOne K (.ref (s.cls K)) (.ref (He.ga K "Yard")) = some true) ∧
  (∀ s ∈ sorts K, ∀ t ∈ sorts K, PySem.W.kitOne K (.ref (s.cls K)) (.ref (t.cls K)) = some (decide (s = t))) ∧ ∀ t ∈ bty, PySem.W.kitOne K (.type t) (.ref (He.ga K "Yard")) = some false
instance (K : PySem.W.Frag) : Decidable (Kf K) := by unfold Kf; infer_instance
/-- all four sorts are there -/
def K4 (K : PySem.W.Frag) : Prop := sorts K = allSo ∧ Kf K
instance (K : PySem.W.Frag) : Decidable (K4 K) := by unfold K4; infer_instance
def nD (n : Nat) : D := .int n
def iD (l : List Int) : D := .lst (l.map .int)
def prD (e : Tie) : D := .tup [.int e.1, .int e.2]
inductive Yd where
  | ties (n : Nat) (es : List Tie)
  | rows (rs : List Nat)
  | lots (ts ls : List Nat)
  | seats (n : Nat) (rs : List (List Int))
  deriving DecidableEq
def Heap_ (m : Nat) (hp : List Int) : Prop := hp.Nodup ∧ ∀ i ∈ hp, InR m i
namespace Yd
def so : Yd → So
  | ties _ _ => .ties
  | rows _ => .rows
  | lots _ _ => .lots
  | seats _ _ => .seats
abbrev cls (K : PySem.W.Frag) (u : Yd) : Addr := u.so.cls K
def len : Yd → Nat
  | ties _ es => es.length
  | rows rs => rs.length
  | lots _ ls => ls.length
  | seats _ rs => rs.length
def base (n : Nat) : List (Str × D) := [("numbers", .lst ((rng n).map .int)), ("nested", .int 0)]
def flds : Yd → List (Str × D)
  | ties n es => base es.length ++ ([("own_places", .int (n : Nat)), ("own_pairs", .lst (es.map prD))] : List (Str × D))
  | rows rs => base rs.length ++ ([("own_rows", .lst (rs.map nD))] : List (Str × D))
  | lots ts ls => base ls.length ++ ([("own_tops", .lst (ts.map nD)), ("own_lots", .lst (ls.map nD))] : List (Str × D))
  | seats n rs => base rs.length ++ ([("own_seats", .int (n : Nat)), ("own_rows", .lst (rs.map iD))] : List (Str × D))
def Ok : Yd → Prop
  | ties n es => 1 ≤ n ∧ n ≤ 12 ∧ es.length ≤ 24 ∧ TiesIn n es
  | rows rs => rs.length ≤ 24 ∧ ∀ r ∈ rs, r < 2 ^ 12
  | lots ts ls => ts.length ≤ 8 ∧ (∀ t ∈ ts, t ≤ 24) ∧ ls.length ≤ 24 ∧ ∀ l ∈ ls, l < ts.length
  | seats n rs => n ≤ 12 ∧ rs.length ≤ 24 ∧ ∀ r ∈ rs, Heap_ n r
/-- the things, as data -/
def told : Yd → List D
  | ties _ es => es.map prD
  | rows rs => rs.map nD
  | lots _ ls => ls.map nD
  | seats _ rs => rs.map iD
def first : Yd → D
  | ties n _ => .int n
  | rows _ => .int 0
  | lots ts _ => .lst (ts.map nD)
  | seats n _ => .int n
end Yd
def IsY (K : PySem.W.Frag) (S : Sto) (y : Addr) (u : Yd) : Prop := S y = some (.ins (u.cls K) u.flds) ∧ u.Ok ∧ Kf K ∧ u.so ∈ sorts K
def tieAt (es : List Tie) (i : Int) : Tie := es.getD i.toNat (0, 0)
def natAt (rs : List Nat) (i : Int) : Nat := rs.getD i.toNat 0
def rowAt (rs : List (List Int)) (i : Int) : List Int := rs.getD i.toNat []
def worthT (n : Nat) (es : List Tie) : Int := n - cnt n (labs es)
def worthR (rs : List Nat) : Int := (rk rs.reverse : Nat)
def worthL (ts ls : List Nat) : Nat := ((List.range ts.length).map fun k => min (ls.count k) (ts.getD k 0)).sum
noncomputable def Yd.worth : Yd → List Int → Int
  | .ties n es, hp => worthT n (hp.map (tieAt es))
  | .rows rs, hp => worthR (hp.map (natAt rs))
  | .lots ts ls, hp => (worthL ts (hp.map (natAt ls)) : Nat)
  | .seats _ rs, hp => (worthS (hp.map (rowAt rs)) : Nat)
theorem getD_get {α : Type} {l : List α} {i : Int} {x : α} (h : InR l.length i) : l[i.toNat]? = some (l.getD i.toNat x) := by
  have : i.toNat < l.length := by have := h.1; have := h.2; omega
  rw [List.getD_eq_getElem?_getD, List.getElem?_eq_getElem this]
  rfl
theorem getD_mem {α : Type} {l : List α} {i : Int} {x : α} (h : InR l.length i) : l.getD i.toNat x ∈ l := List.mem_of_getElem? (getD_get h)
theorem ties_at {n : Nat} {es : List Tie} {hp : List Int} (h : TiesIn n es) (hr : ∀ i ∈ hp, InR es.length i) : TiesIn n (hp.map (tieAt es)) := fun e he => by
  obtain ⟨i, hi, rfl⟩ := List.mem_map.mp he
  exact h _ (getD_mem (hr i hi))
/-- a heap's worth goes by its things alone -/
theorem Yd.worth_perm {u : Yd} {hp hq : List Int} (ok : u.Ok) (hr : ∀ i ∈ hp, InR u.len i) (h : hp.Perm hq) : u.worth hp = u.worth hq := by
  cases u with
  | ties n es => show worthT n _ = worthT n _; unfold worthT; rw [cnt_perm (h.map _) (ties_at ok.2.2.2 hr)]
  | rows rs => show worthR _ = worthR _; unfold worthR; rw [rk_perm (((List.reverse_perm _).trans (h.map _)).trans (List.reverse_perm _).symm)]
  | lots ts ls =>
    show ((worthL ts _ : Nat) : Int) = (worthL ts _ : Nat)
    unfold worthL
    rw [show (fun k => min ((hp.map (natAt ls)).count k) (ts.getD k 0)) = fun k => min ((hq.map (natAt ls)).count k) (ts.getD k 0) from funext fun k => by rw [(h.map _).count_eq]]
  | seats n rs => show ((worthS _ : Nat) : Int) = (worthS _ : Nat); rw [worthS_perm (h.map _)]
/-- a heap with a thing more -/
def adj (hp : List Int) (i : Int) : List Int := if i ∈ hp then hp else hp ++ [i]
noncomputable def Yd.adds (u : Yd) (hp : List Int) (i : Int) : Bool := decide (u.worth hp < u.worth (adj hp i))
theorem perm_of {l m : List Int} (h1 : l.Nodup) (h2 : m.Nodup) (h : ∀ k, k ∈ l ↔ k ∈ m) : l.Perm m := by
  induction l generalizing m with
  | nil =>
    cases m with
    | nil => exact .nil
    | cons a m => exact ((List.not_mem_nil ((h a).mpr List.mem_cons_self))).elim
  | cons a l ih =>
    have n1 := List.nodup_cons.mp h1
    have ha : a ∈ m := (h a).mp List.mem_cons_self
    refine List.Perm.trans ?_ (List.perm_cons_erase ha).symm
    refine (ih n1.2 (h2.erase a) fun k => ?_).cons a
    rw [h2.mem_erase_iff]
    constructor
    · intro hk
      exact ⟨by rintro rfl; exact n1.1 hk, (h k).mp (List.mem_cons_of_mem _ hk)⟩
    · rintro ⟨ne, hk⟩
      rcases List.mem_cons.mp ((h k).mpr hk) with z | z
      · exact (ne z).elim
      · exact z
theorem IsY.ins {K : PySem.W.Frag} {S : Sto} {y : Addr} {u : Yd} (h : IsY K S y u) : insOf S (.own y) = some (u.cls K, u.flds) := by
  unfold insOf
  simp only [h.1]
theorem IsY.sub {K : PySem.W.Frag} {S S' : Sto} {y : Addr} {u : Yd} (h : IsY K S y u) (s : Sub S S') : IsY K S' y u := ⟨s _ _ h.1, h.2⟩
theorem IsY.ok {K : PySem.W.Frag} {S : Sto} {y : Addr} {u : Yd} (h : IsY K S y u) : okY K (u.cls K) := ⟨_, all_so _, h.2.2.2, rfl⟩
theorem Yd.le {u : Yd} (h : u.Ok) : u.len ≤ 24 := by
  cases u with
  | ties n es => exact h.2.2.1
  | rows rs => exact h.1
  | lots ts ls => exact h.2.2.1
  | seats n rs => exact h.2.1
theorem IsY.le {K : PySem.W.Frag} {S : Sto} {y : Addr} {u : Yd} (h : IsY K S y u) : u.len ≤ 24 := Yd.le h.2.1
end A

/-! ## a table laid anew always has room: small hashes, small tables -/
namespace A
open PySem L2
local macro_rules | `(tactic| walk_at "A.go") => `(tactic| simp only [aSeq, aNext, aSet, aVar, atV_s, onB_b, onI_i, onII_i, onL1_i, onL2_i, it_l, it_t, it_s, it_x, ix_l, ix_t, ix_s, add_i, add_x, eq_i, eq_x, eq_b, is_b, aC, aNil, aCons, aOp, aUn, aTup, aLst, aCB, aNot, aAnd, aOr, aTst, aIfE, aAndV, aOrV, aNotV, aChn, aDrop, aRet, aRetN, aIf, agName, agNil, agCons, agTup, aAsg, aPar, aAug, aFor, aRng1, aRng2, aIter, aLc, aYes,
  aCl, aMt, aMk, aFl, aFst, aNeg, aI2, aI20, aLe, aLt, aGt, aGe, aSub, aMod, aMul, aFdv, aPow, aXor, aShl, aShr, agSub, aoN, aoS, aSl, aRev, aLen, aList, aTupOf, aLRg1, aLRg2, aAbs, aI2N, aMax, aMin, aDm, aAll, aAny, aBM, aApp, aPopAt, aPop, aClear, aRevM, aExt, aRepr, aClD, aLnSt, aIAdd, aBreak, aCont,
  aEnd, startA, List.map_cons, List.map_nil, List.cons_append, List.nil_append, List.length_cons, List.length_nil, List.replicate, List.getElem?_cons_zero, List.getElem?_cons_succ, List.set_cons_zero, List.set_cons_succ, Nat.reduceAdd, Nat.reduceSub, Nat.succ_eq_add_one, Int.reduceAdd, Int.reduceMul,
  reduceIte, Bool.false_eq_true, Bool.not_true, Bool.not_false, ite_true, ite_false])
/-! ### the orbit of the probes -/
end A

/-! ## sets of ints: walked unseen, discarded from, copied; less another, and another -/
namespace A
open PySem PySem.Spec L2 PyProof.Rows
local macro_rules | `(tactic| walk_at "A.go") => `(tactic| simp only [aSeq, aNext, aSet, aVar, atV_s, onB_b, onI_i, onII_i, onL1_i, onL2_i, it_l, it_t, it_s, it_x, ix_l, ix_t, ix_s, add_i, add_x, eq_i, eq_x, eq_b, is_b, aC, aNil, aCons, aOp, aUn, aTup, aLst, aCB, aNot, aAnd, aOr, aTst, aIfE, aAndV, aOrV, aNotV, aChn, aDrop, aRet, aRetN, aIf, agName, agNil, agCons, agTup, aAsg, aPar, aAug, aFor, aRng1, aRng2, aIter, aLc, aYes,
  aCl, aMt, aMk, aFl, aFst, aNeg, aI2, aI20, aLe, aLt, aGt, aGe, aSub, aMod, aMul, aFdv, aPow, aXor, aShl, aShr, agSub, aoN, aoS, aSl, aRev, aLen, aList, aTupOf, aLRg1, aLRg2, aAbs, aI2N, aMax, aMin, aDm, aAll, aAny, aBM, aApp, aPopAt, aPop, aClear, aRevM, aExt, aRepr, aClD, aLnSt, aIAdd, aBreak, aCont,
  aEnd, startA, List.map_cons, List.map_nil, List.cons_append, List.nil_append, List.length_cons, List.length_nil, List.replicate, List.getElem?_cons_zero, List.getElem?_cons_succ, List.set_cons_zero, List.set_cons_succ, Nat.reduceAdd, Nat.reduceSub, Nat.succ_eq_add_one, Int.reduceAdd, Int.reduceMul,
  reduceIte, Bool.false_eq_true, Bool.not_true, Bool.not_false, ite_true, ite_false])
section
variable {P : Program} {w : World} {A : Around} {E : Value → Shared → Prop} {s : Shared} {a b r : Addr} {S T : Int → Bool} {n m : Nat}
end
end A

namespace A
open PySem PySem.Spec L2 PyProof.Rows
local macro_rules | `(tactic| walk_at "A.go") => `(tactic| simp only [aSeq, aNext, aSet, aVar, atV_s, onB_b, onI_i, onII_i, onL1_i, onL2_i, it_l, it_t, it_s, it_x, ix_l, ix_t, ix_s, add_i, add_x, eq_i, eq_x, eq_b, is_b, aC, aNil, aCons, aOp, aUn, aTup, aLst, aCB, aNot, aAnd, aOr, aTst, aIfE, aAndV, aOrV, aNotV, aChn, aDrop, aRet, aRetN, aIf, agName, agNil, agCons, agTup, aAsg, aPar, aAug, aFor, aRng1, aRng2, aIter, aLc, aYes,
  aCl, aMt, aMk, aFl, aFst, aNeg, aI2, aI20, aLe, aLt, aGt, aGe, aSub, aMod, aMul, aFdv, aPow, aXor, aShl, aShr, agSub, aoN, aoS, aSl, aRev, aLen, aList, aTupOf, aLRg1, aLRg2, aAbs, aI2N, aMax, aMin, aDm, aAll, aAny, aBM, aApp, aPopAt, aPop, aClear, aRevM, aExt, aRepr, aClD, aLnSt, aIAdd, aBreak, aCont,
  aEnd, startA, List.map_cons, List.map_nil, List.cons_append, List.nil_append, List.length_cons, List.length_nil, List.replicate, List.getElem?_cons_zero, List.getElem?_cons_succ, List.set_cons_zero, List.set_cons_succ, Nat.reduceAdd, Nat.reduceSub, Nat.succ_eq_add_one, Int.reduceAdd, Int.reduceMul,
  reduceIte, Bool.false_eq_true, Bool.not_true, Bool.not_false, ite_true, ite_false])
/-- the elements of a set, in some order -/
def Els (l : List (Int × Value)) (S : Int → Bool) (n : Nat) : Prop := (∀ e ∈ l, GoodE e) ∧ (l.map keyOf).Nodup ∧ (∀ k, S k = true ↔ k ∈ l.map keyOf) ∧ l.length = n
theorem Els.perm {l l' : List (Int × Value)} {S : Int → Bool} {n : Nat} (h : Els l S n) (p : l'.Perm l) : Els l' S n :=
  ⟨fun e he => h.1 e (p.mem_iff.mp he), (p.map keyOf).nodup_iff.mpr h.2.1, fun k => (h.2.2.1 k).trans (p.map keyOf).mem_iff.symm, p.length_eq.trans h.2.2.2⟩
section
variable {P : Program} {w : World} {A : Around} {E : Value → Shared → Prop} {s : Shared} {a b r : Addr} {S T : Int → Bool} {n m : Nat}
end
end A

namespace A
open PySem PySem.Spec L2 PyProof.Rows
local macro_rules | `(tactic| walk_at "A.go") => `(tactic| simp only [aSeq, aNext, aSet, aVar, atV_s, onB_b, onI_i, onII_i, onL1_i, onL2_i, it_l, it_t, it_s, it_x, ix_l, ix_t, ix_s, add_i, add_x, eq_i, eq_x, eq_b, is_b, aC, aNil, aCons, aOp, aUn, aTup, aLst, aCB, aNot, aAnd, aOr, aTst, aIfE, aAndV, aOrV, aNotV, aChn, aDrop, aRet, aRetN, aIf, agName, agNil, agCons, agTup, aAsg, aPar, aAug, aFor, aRng1, aRng2, aIter, aLc, aYes,
  aCl, aMt, aMk, aFl, aFst, aNeg, aI2, aI20, aLe, aLt, aGt, aGe, aSub, aMod, aMul, aFdv, aPow, aXor, aShl, aShr, agSub, aoN, aoS, aSl, aRev, aLen, aList, aTupOf, aLRg1, aLRg2, aAbs, aI2N, aMax, aMin, aDm, aAll, aAny, aBM, aApp, aPopAt, aPop, aClear, aRevM, aExt, aRepr, aClD, aLnSt, aIAdd, aBreak, aCont,
  aEnd, startA, List.map_cons, List.map_nil, List.cons_append, List.nil_append, List.length_cons, List.length_nil, List.replicate, List.getElem?_cons_zero, List.getElem?_cons_succ, List.set_cons_zero, List.set_cons_succ, Nat.reduceAdd, Nat.reduceSub, Nat.succ_eq_add_one, Int.reduceAdd, Int.reduceMul,
  reduceIte, Bool.false_eq_true, Bool.not_true, Bool.not_false, ite_true, ite_false])
section
variable {P : Program} {w : World} {A : Around} {E : Value → Shared → Prop} {s : Shared} {a b r : Addr} {S T : Int → Bool} {n m : Nat}
end
end A

namespace A
open PySem PySem.Spec L2 PyProof.Rows
local macro_rules | `(tactic| walk_at "A.go") => `(tactic| simp only [aSeq, aNext, aSet, aVar, atV_s, onB_b, onI_i, onII_i, onL1_i, onL2_i, it_l, it_t, it_s, it_x, ix_l, ix_t, ix_s, add_i, add_x, eq_i, eq_x, eq_b, is_b, aC, aNil, aCons, aOp, aUn, aTup, aLst, aCB, aNot, aAnd, aOr, aTst, aIfE, aAndV, aOrV, aNotV, aChn, aDrop, aRet, aRetN, aIf, agName, agNil, agCons, agTup, aAsg, aPar, aAug, aFor, aRng1, aRng2, aIter, aLc, aYes,
  aCl, aMt, aMk, aFl, aFst, aNeg, aI2, aI20, aLe, aLt, aGt, aGe, aSub, aMod, aMul, aFdv, aPow, aXor, aShl, aShr, agSub, aoN, aoS, aSl, aRev, aLen, aList, aTupOf, aLRg1, aLRg2, aAbs, aI2N, aMax, aMin, aDm, aAll, aAny, aBM, aApp, aPopAt, aPop, aClear, aRevM, aExt, aRepr, aClD, aLnSt, aIAdd, aBreak, aCont,
  aEnd, startA, List.map_cons, List.map_nil, List.cons_append, List.nil_append, List.length_cons, List.length_nil, List.replicate, List.getElem?_cons_zero, List.getElem?_cons_succ, List.set_cons_zero, List.set_cons_succ, Nat.reduceAdd, Nat.reduceSub, Nat.succ_eq_add_one, Int.reduceAdd, Int.reduceMul,
  reduceIte, Bool.false_eq_true, Bool.not_true, Bool.not_false, ite_true, ite_false])
section
variable {P : Program} {w : World} {A : Around} {E : Value → Shared → Prop} {s : Shared} {a b r : Addr} {S T : Int → Bool} {n m : Nat}
end
end A

namespace A
open PySem PySem.Spec L2 PyProof.Rows
local macro_rules | `(tactic| walk_at "A.go") => `(tactic| simp only [aSeq, aNext, aSet, aVar, atV_s, onB_b, onI_i, onII_i, onL1_i, onL2_i, it_l, it_t, it_s, it_x, ix_l, ix_t, ix_s, add_i, add_x, eq_i, eq_x, eq_b, is_b, aC, aNil, aCons, aOp, aUn, aTup, aLst, aCB, aNot, aAnd, aOr, aTst, aIfE, aAndV, aOrV, aNotV, aChn, aDrop, aRet, aRetN, aIf, agName, agNil, agCons, agTup, aAsg, aPar, aAug, aFor, aRng1, aRng2, aIter, aLc, aYes,
  aCl, aMt, aMk, aFl, aFst, aNeg, aI2, aI20, aLe, aLt, aGt, aGe, aSub, aMod, aMul, aFdv, aPow, aXor, aShl, aShr, agSub, aoN, aoS, aSl, aRev, aLen, aList, aTupOf, aLRg1, aLRg2, aAbs, aI2N, aMax, aMin, aDm, aAll, aAny, aBM, aApp, aPopAt, aPop, aClear, aRevM, aExt, aRepr, aClD, aLnSt, aIAdd, aBreak, aCont,
  aEnd, startA, List.map_cons, List.map_nil, List.cons_append, List.nil_append, List.length_cons, List.length_nil, List.replicate, List.getElem?_cons_zero, List.getElem?_cons_succ, List.set_cons_zero, List.set_cons_succ, Nat.reduceAdd, Nat.reduceSub, Nat.succ_eq_add_one, Int.reduceAdd, Int.reduceMul,
  reduceIte, Bool.false_eq_true, Bool.not_true, Bool.not_false, ite_true, ite_false])
section
variable {P : Program} {w : World} {A : Around} {E : Value → Shared → Prop} {s : Shared} {a b r : Addr} {S T : Int → Bool} {n m : Nat}
end
end A

namespace A
open PySem PySem.Spec L2 PyProof.Rows
local macro_rules | `(tactic| walk_at "A.go") => `(tactic| simp only [aSeq, aNext, aSet, aVar, atV_s, onB_b, onI_i, onII_i, onL1_i, onL2_i, it_l, it_t, it_s, it_x, ix_l, ix_t, ix_s, add_i, add_x, eq_i, eq_x, eq_b, is_b, aC, aNil, aCons, aOp, aUn, aTup, aLst, aCB, aNot, aAnd, aOr, aTst, aIfE, aAndV, aOrV, aNotV, aChn, aDrop, aRet, aRetN, aIf, agName, agNil, agCons, agTup, aAsg, aPar, aAug, aFor, aRng1, aRng2, aIter, aLc, aYes,
  aCl, aMt, aMk, aFl, aFst, aNeg, aI2, aI20, aLe, aLt, aGt, aGe, aSub, aMod, aMul, aFdv, aPow, aXor, aShl, aShr, agSub, aoN, aoS, aSl, aRev, aLen, aList, aTupOf, aLRg1, aLRg2, aAbs, aI2N, aMax, aMin, aDm, aAll, aAny, aBM, aApp, aPopAt, aPop, aClear, aRevM, aExt, aRepr, aClD, aLnSt, aIAdd, aBreak, aCont,
  aEnd, startA, List.map_cons, List.map_nil, List.cons_append, List.nil_append, List.length_cons, List.length_nil, List.replicate, List.getElem?_cons_zero, List.getElem?_cons_succ, List.set_cons_zero, List.set_cons_succ, Nat.reduceAdd, Nat.reduceSub, Nat.succ_eq_add_one, Int.reduceAdd, Int.reduceMul,
  reduceIte, Bool.false_eq_true, Bool.not_true, Bool.not_false, ite_true, ite_false])
section
variable {P : Program} {w : World} {A : Around} {E : Value → Shared → Prop} {s : Shared} {a b r : Addr} {S T : Int → Bool} {n m : Nat}
end
end A

namespace A
open PySem PySem.Spec L2 PyProof.Rows
local macro_rules | `(tactic| walk_at "A.go") => `(tactic| simp only [aSeq, aNext, aSet, aVar, atV_s, onB_b, onI_i, onII_i, onL1_i, onL2_i, it_l, it_t, it_s, it_x, ix_l, ix_t, ix_s, add_i, add_x, eq_i, eq_x, eq_b, is_b, aC, aNil, aCons, aOp, aUn, aTup, aLst, aCB, aNot, aAnd, aOr, aTst, aIfE, aAndV, aOrV, aNotV, aChn, aDrop, aRet, aRetN, aIf, agName, agNil, agCons, agTup, aAsg, aPar, aAug, aFor, aRng1, aRng2, aIter, aLc, aYes,
  aCl, aMt, aMk, aFl, aFst, aNeg, aI2, aI20, aLe, aLt, aGt, aGe, aSub, aMod, aMul, aFdv, aPow, aXor, aShl, aShr, agSub, aoN, aoS, aSl, aRev, aLen, aList, aTupOf, aLRg1, aLRg2, aAbs, aI2N, aMax, aMin, aDm, aAll, aAny, aBM, aApp, aPopAt, aPop, aClear, aRevM, aExt, aRepr, aClD, aLnSt, aIAdd, aBreak, aCont,
  aEnd, startA, List.map_cons, List.map_nil, List.cons_append, List.nil_append, List.length_cons, List.length_nil, List.replicate, List.getElem?_cons_zero, List.getElem?_cons_succ, List.set_cons_zero, List.set_cons_succ, Nat.reduceAdd, Nat.reduceSub, Nat.succ_eq_add_one, Int.reduceAdd, Int.reduceMul,
  reduceIte, Bool.false_eq_true, Bool.not_true, Bool.not_false, ite_true, ite_false])
section
variable {P : Program} {w : World} {A : Around} {E : Value → Shared → Prop} {s : Shared} {a b r : Addr} {S T : Int → Bool} {n m d : Nat}
end
end A

namespace A
open PySem PySem.Spec L2 PyProof.Rows
local macro_rules | `(tactic| walk_at "A.go") => `(tactic| simp only [aSeq, aNext, aSet, aVar, atV_s, onB_b, onI_i, onII_i, onL1_i, onL2_i, it_l, it_t, it_s, it_x, ix_l, ix_t, ix_s, add_i, add_x, eq_i, eq_x, eq_b, is_b, aC, aNil, aCons, aOp, aUn, aTup, aLst, aCB, aNot, aAnd, aOr, aTst, aIfE, aAndV, aOrV, aNotV, aChn, aDrop, aRet, aRetN, aIf, agName, agNil, agCons, agTup, aAsg, aPar, aAug, aFor, aRng1, aRng2, aIter, aLc, aYes,
  aCl, aMt, aMk, aFl, aFst, aNeg, aI2, aI20, aLe, aLt, aGt, aGe, aSub, aMod, aMul, aFdv, aPow, aXor, aShl, aShr, agSub, aoN, aoS, aSl, aRev, aLen, aList, aTupOf, aLRg1, aLRg2, aAbs, aI2N, aMax, aMin, aDm, aAll, aAny, aBM, aApp, aPopAt, aPop, aClear, aRevM, aExt, aRepr, aClD, aLnSt, aIAdd, aBreak, aCont,
  aEnd, startA, List.map_cons, List.map_nil, List.cons_append, List.nil_append, List.length_cons, List.length_nil, List.replicate, List.getElem?_cons_zero, List.getElem?_cons_succ, List.set_cons_zero, List.set_cons_succ, Nat.reduceAdd, Nat.reduceSub, Nat.succ_eq_add_one, Int.reduceAdd, Int.reduceMul,
  reduceIte, Bool.false_eq_true, Bool.not_true, Bool.not_false, ite_true, ite_false])
section
variable {P : Program} {w : World} {A : Around} {E : Value → Shared → Prop} {s : Shared} {a b r : Addr} {S T : Int → Bool} {n m k : Nat}
end
end A

namespace A
open PySem PySem.Spec L2 PyProof.Rows
local macro_rules | `(tactic| walk_at "A.go") => `(tactic| simp only [aSeq, aNext, aSet, aVar, atV_s, onB_b, onI_i, onII_i, onL1_i, onL2_i, it_l, it_t, it_s, it_x, ix_l, ix_t, ix_s, add_i, add_x, eq_i, eq_x, eq_b, is_b, aC, aNil, aCons, aOp, aUn, aTup, aLst, aCB, aNot, aAnd, aOr, aTst, aIfE, aAndV, aOrV, aNotV, aChn, aDrop, aRet, aRetN, aIf, agName, agNil, agCons, agTup, aAsg, aPar, aAug, aFor, aRng1, aRng2, aIter, aLc, aYes,
  aCl, aMt, aMk, aFl, aFst, aNeg, aI2, aI20, aLe, aLt, aGt, aGe, aSub, aMod, aMul, aFdv, aPow, aXor, aShl, aShr, agSub, aoN, aoS, aSl, aRev, aLen, aList, aTupOf, aLRg1, aLRg2, aAbs, aI2N, aMax, aMin, aDm, aAll, aAny, aBM, aApp, aPopAt, aPop, aClear, aRevM, aExt, aRepr, aClD, aLnSt, aIAdd, aBreak, aCont,
  aEnd, startA, List.map_cons, List.map_nil, List.cons_append, List.nil_append, List.length_cons, List.length_nil, List.replicate, List.getElem?_cons_zero, List.getElem?_cons_succ, List.set_cons_zero, List.set_cons_succ, Nat.reduceAdd, Nat.reduceSub, Nat.succ_eq_add_one, Int.reduceAdd, Int.reduceMul,
  reduceIte, Bool.false_eq_true, Bool.not_true, Bool.not_false, ite_true, ite_false])
section
variable {P : Program} {w : World} {A : Around} {E : Value → Shared → Prop} {s : Shared} {a b r : Addr} {S T : Int → Bool} {n m k : Nat}
end
end A

/-! ## set - set, set & set: small ints -/
namespace A
open PySem PySem.Spec L2 PyProof.Rows
local macro_rules | `(tactic| walk_at "A.go") => `(tactic| simp only [aSeq, aNext, aSet, aVar, atV_s, onB_b, onI_i, onII_i, onL1_i, onL2_i, it_l, it_t, it_s, it_x, ix_l, ix_t, ix_s, add_i, add_x, eq_i, eq_x, eq_b, is_b, aC, aNil, aCons, aOp, aUn, aTup, aLst, aCB, aNot, aAnd, aOr, aTst, aIfE, aAndV, aOrV, aNotV, aChn, aDrop, aRet, aRetN, aIf, agName, agNil, agCons, agTup, aAsg, aPar, aAug, aFor, aRng1, aRng2, aIter, aLc, aYes,
  aCl, aMt, aMk, aFl, aFst, aNeg, aI2, aI20, aLe, aLt, aGt, aGe, aSub, aMod, aMul, aFdv, aPow, aXor, aShl, aShr, agSub, aoN, aoS, aSl, aRev, aLen, aList, aTupOf, aLRg1, aLRg2, aAbs, aI2N, aMax, aMin, aDm, aAll, aAny, aBM, aApp, aPopAt, aPop, aClear, aRevM, aExt, aRepr, aClD, aLnSt, aIAdd, aBreak, aCont,
  aEnd, startA, List.map_cons, List.map_nil, List.cons_append, List.nil_append, List.length_cons, List.length_nil, List.replicate, List.getElem?_cons_zero, List.getElem?_cons_succ, List.set_cons_zero, List.set_cons_succ, Nat.reduceAdd, Nat.reduceSub, Nat.succ_eq_add_one, Int.reduceAdd, Int.reduceMul,
  reduceIte, Bool.false_eq_true, Bool.not_true, Bool.not_false, ite_true, ite_false])
section
variable {P : Program} {w : World} {A : Around} {E : Value → Shared → Prop} {s : Shared} {a b r : Addr} {S T : Int → Bool} {n m k : Nat}
end
section
variable {X : Cx}
end
end A
namespace A
open PySem PySem.Spec L2 PyProof.Rows
local macro_rules | `(tactic| walk_at "A.go") => `(tactic| simp only [aSeq, aNext, aSet, aVar, atV_s, onB_b, onI_i, onII_i, onL1_i, onL2_i, it_l, it_t, it_s, it_x, ix_l, ix_t, ix_s, add_i, add_x, eq_i, eq_x, eq_b, is_b, aC, aNil, aCons, aOp, aUn, aTup, aLst, aCB, aNot, aAnd, aOr, aTst, aIfE, aAndV, aOrV, aNotV, aChn, aDrop, aRet, aRetN, aIf, agName, agNil, agCons, agTup, aAsg, aPar, aAug, aFor, aRng1, aRng2, aIter, aLc, aYes,
  aCl, aMt, aMk, aFl, aFst, aNeg, aI2, aI20, aLe, aLt, aGt, aGe, aSub, aMod, aMul, aFdv, aPow, aXor, aShl, aShr, agSub, aoN, aoS, aSl, aRev, aLen, aList, aTupOf, aLRg1, aLRg2, aAbs, aI2N, aMax, aMin, aDm, aAll, aAny, aBM, aApp, aPopAt, aPop, aClear, aRevM, aExt, aRepr, aClD, aLnSt, aIAdd, aBreak, aCont,
  aEnd, startA, List.map_cons, List.map_nil, List.cons_append, List.nil_append, List.length_cons, List.length_nil, List.replicate, List.getElem?_cons_zero, List.getElem?_cons_succ, List.set_cons_zero, List.set_cons_succ, Nat.reduceAdd, Nat.reduceSub, Nat.succ_eq_add_one, Int.reduceAdd, Int.reduceMul,
  reduceIte, Bool.false_eq_true, Bool.not_true, Bool.not_false, ite_true, ite_false])
section
variable {X : Cx} {W : WX} {pos : Pos} {a b c : Expr} {ta tb tc : TE} {aa ab ac : AE}
end
end A

/-! ## d == {}, d != {}, del d[k] -/
namespace A
open PySem PySem.Spec L2 PyProof.Rows
local macro_rules | `(tactic| walk_at "A.go") => `(tactic| simp only [aSeq, aNext, aSet, aVar, atV_s, onB_b, onI_i, onII_i, onL1_i, onL2_i, it_l, it_t, it_s, it_x, ix_l, ix_t, ix_s, add_i, add_x, eq_i, eq_x, eq_b, is_b, aC, aNil, aCons, aOp, aUn, aTup, aLst, aCB, aNot, aAnd, aOr, aTst, aIfE, aAndV, aOrV, aNotV, aChn, aDrop, aRet, aRetN, aIf, agName, agNil, agCons, agTup, aAsg, aPar, aAug, aFor, aRng1, aRng2, aIter, aLc, aYes,
  aCl, aMt, aMk, aFl, aFst, aNeg, aI2, aI20, aLe, aLt, aGt, aGe, aSub, aMod, aMul, aFdv, aPow, aXor, aShl, aShr, agSub, aoN, aoS, aSl, aRev, aLen, aList, aTupOf, aLRg1, aLRg2, aAbs, aI2N, aMax, aMin, aDm, aAll, aAny, aBM, aApp, aPopAt, aPop, aClear, aRevM, aExt, aRepr, aClD, aLnSt, aIAdd, aBreak, aCont,
  aEnd, startA, List.map_cons, List.map_nil, List.cons_append, List.nil_append, List.length_cons, List.length_nil, List.replicate, List.getElem?_cons_zero, List.getElem?_cons_succ, List.set_cons_zero, List.set_cons_succ, Nat.reduceAdd, Nat.reduceSub, Nat.succ_eq_add_one, Int.reduceAdd, Int.reduceMul,
  reduceIte, Bool.false_eq_true, Bool.not_true, Bool.not_false, ite_true, ite_false])
section
variable {X : Cx}
end
/-! ### del -/
def dropA (m : List (Key × D)) (k : Key) : List (Key × D) := m.filter fun p => decide (p.1 ≠ k)
theorem DvP.drop {K : KW} {F : Hp} {k : Key} : ∀ {l : List (Key × V)} {m : List (Key × D)}, DvP K F l m → DvP K F (dropK l k) (dropA m k)
  | _, _, .nil => .nil
  | (k1, v) :: l, (k2, d) :: m, .cons h t => by
    have e : k1 = k2 := h.1
    subst e
    unfold dropK dropA
    rw [List.filter_cons, List.filter_cons]
    by_cases z : k1 = k
    · simp only [z, ne_eq, not_true_eq_false, decide_false, Bool.false_eq_true, if_false]
      exact DvP.drop t
    · simp only [z, ne_eq, not_false_eq_true, decide_true, if_true]
      exact .cons h (DvP.drop t)
section
variable {X : Cx} {W : WX} {o i : Expr} {to ti : TE} {ao ai : AE} {pos tpos : Pos}
end
end A

/-! ## making an exception of an own class, the built-in base any, its __new__ perhaps inherited -/
namespace A
open PySem PySem.Spec L2 PyProof.Rows
local macro_rules | `(tactic| walk_at "A.go") => `(tactic| simp only [aSeq, aNext, aSet, aVar, atV_s, onB_b, onI_i, onII_i, onL1_i, onL2_i, it_l, it_t, it_s, it_x, ix_l, ix_t, ix_s, add_i, add_x, eq_i, eq_x, eq_b, is_b, aC, aNil, aCons, aOp, aUn, aTup, aLst, aCB, aNot, aAnd, aOr, aTst, aIfE, aAndV, aOrV, aNotV, aChn, aDrop, aRet, aRetN, aIf, agName, agNil, agCons, agTup, aAsg, aPar, aAug, aFor, aRng1, aRng2, aIter, aLc, aYes,
  aCl, aMt, aMk, aFl, aFst, aNeg, aI2, aI20, aLe, aLt, aGt, aGe, aSub, aMod, aMul, aFdv, aPow, aXor, aShl, aShr, agSub, aoN, aoS, aSl, aRev, aLen, aList, aTupOf, aLRg1, aLRg2, aAbs, aI2N, aMax, aMin, aDm, aAll, aAny, aBM, aApp, aPopAt, aPop, aClear, aRevM, aExt, aRepr, aClD, aLnSt, aIAdd, aBreak, aCont,
  aEnd, startA, List.map_cons, List.map_nil, List.cons_append, List.nil_append, List.length_cons, List.length_nil, List.replicate, List.getElem?_cons_zero, List.getElem?_cons_succ, List.set_cons_zero, List.set_cons_succ, Nat.reduceAdd, Nat.reduceSub, Nat.succ_eq_add_one, Int.reduceAdd, Int.reduceMul,
  reduceIte, Bool.false_eq_true, Bool.not_true, Bool.not_false, ite_true, ite_false])
/-- what the mro of the class C tells -/
def Mro3 (B : String) (C : Addr) (bm : List Value) : Prop := (Value.ref C :: bm).contains (.type B) = true ∧ (Value.ref C :: bm).contains (.type "AttributeError") = false ∧ (Value.ref C :: bm).contains (.type "NameError") = false
section
variable {M : Model} {A : Around} {E : Value → Shared → Prop} {h : Heap} {g : Array GenState} {d : Drawn} {t : Nat} {os : OsState}
variable {nm q : Str} {C N : Addr} {bs bm bmB : List Value} {hdct : Bool} {sn : List Str} {sub : List Value} {ab : Bool} {col : Option Bool} {dd : Option Addr} {k0 k1 k2 k3 k5 : Option Value} {B newId initId : String}
theorem check_newK (F : ExcBaseFacts B newId initId bmB) (hB : Mro3 B C bm) {rest : List Value} {kw : List (Str × Value)} {Q : Unit → Shared → Prop}
    (hC : h.get? C = some (excClassObj nm q C N bs bm hdct sn sub ab col dd k0 k1 k2 k3 k5 newId)) (hq : Q () ⟨h, g, d, t, os⟩) : wpAny M A (checkBuiltinCall newId ⟨.ref C :: rest, kw⟩) Q E ⟨h, g, d, t, os⟩ := by
  have hcont := hB.1
  have hstar := F.noStar
  simp only [checkBuiltinCall, F.newKind, F.newSplit, F.newRow]
  repeat (first | refine wpAny_loadPart_at hC ?_ | (refine wpAny_isSubtype_exc hC ?_; rw [hcont]) | refine wpAny_staticBase_exc hC ?_ | refine wpAny_madeBy_exc hC ?_ | simp only [bne_self_eq_false, Bool.false_eq_true, if_false] | wp_step)
  exact hq
end
section
variable {prog : Program} {w : World} {A : Around} {E : Value → Shared → Prop} {R : Result → Shared → Prop} {h : Heap} {g : Array GenState} {d : Drawn} {t : Nat} {os : OsState}
variable {nm q : Str} {C N : Addr} {bs bm bmB : List Value} {hdct : Bool} {sn : List Str} {sub : List Value} {ab : Bool} {col : Option Bool} {dd : Option Addr} {k0 k1 k2 k3 k5 : Option Value} {B newId initId : String}
theorem newK (F : ExcBaseFacts B newId initId bmB) (hB : Mro3 B C bm) {rest : List Value} {kw : List (Str × Value)}
    (hC : h.get? C = some (excClassObj nm q C N bs bm hdct sn sub ab col dd k0 k1 k2 k3 k5 newId))
    (hq : R (.ok (.ret (.ref (h.objs.size + 1)))) ⟨(h.push { cls := .type "tuple", data := .seq rest.toArray }).push
      { cls := .ref C, data := .fields #[.ref h.objs.size, .none, .none, .none, .bool false, .none] }, g, d, t, os⟩) (hrest : rest.length ≤ sizeLine) :
    codeAny (model prog w) A (.builtin newId ⟨.ref C :: rest, kw⟩) R ⟨h, g, d, t, os⟩ := by
  have hends := F.ends
  have hcB := hB.1
  have hcA := hB.2.1
  have hcN := hB.2.2
  refine codeAny_builtinAt F.entry ?_
  unfold Builtin.«BaseException.__new__»
  refine PySem.wpAt_bind ?_
  show PySem.wpAt _ _ _ (stack >>= _) _ _ _
  refine PySem.wpAt_bind (PySem.wpAt_stack fun p below => PySem.wpAt_of_wpAny ?_)
  wp_walk
  refine PySem.wpAt_of_wpAny ?_
  rw [F.owner]
  repeat (first | with_reducible refine wpAny_madeHere_exc F.canon hC ?_ | with_reducible refine wpAny_loadPart_at hC ?_ | (with_reducible refine wpAny_isSubtype_exc hC ?_; first | rw [hcB] | rw [hcA] | rw [hcN]) | wp_step)
  show R _ _
  rw [Heap.size_push]
  exact hq
theorem type_callK (F : ExcBaseFacts B newId initId bmB) (hB : Mro3 B C bm) {rest : List Value} {kw : List (Str × Value)} {fI : Addr} {Q : Fin → Shared → Prop}
    (hC : h.get? C = some (excClassObj nm q C N bs bm hdct sn sub ab col dd k0 k1 k2 k3 k5 newId))
    (hi : W.Looks (model prog w) h (typeLookup (.ref C) "__init__") (some (.ref fI))) (hb : ∀ self, W.Looks (model prog w) h (bindSpecial (.ref fI) self) (.ref fI, [self])) (hrest : rest.length ≤ sizeLine)
    (hq : codeAny (model prog w) A (.call (.ref fI) ⟨.ref (h.objs.size + 1) :: rest, kw⟩)
      (fun r s' => match r with | .ok (.ret v) => v = .none ∧ Q (.done (.ret (.ref (h.objs.size + 1)))) s' | .ok _ => False | .error e => E e s')
      ⟨(h.push (W.kdv_tup rest)).push (HandSPX.excO C h.objs.size), g, d, t, os⟩) :
    wpAny (model prog w) A (Builtin.«type.__call__» ⟨.ref C :: rest, kw⟩) Q E ⟨h, g, d, t, os⟩ := by
  repeat (first | with_reducible refine wpAny_loadPart_at hC ?_ | with_reducible refine wpAny_madeBy_exc hC ?_ | wp_step)
  refine codeAny_call_builtin_code (Code.quiet_builtin _ F.quiet) (check_newK F hB hC ?_)
  refine newK F hB hC ?_ hrest
  show wpAny _ _ _ _ _ _
  have k : ∀ b o, h.get? b = some o → ((h.push (W.kdv_tup rest)).push (HandSPX.excO C h.objs.size)).get? b = some o := fun b o e => Heap.get?_push_of_some _ (Heap.get?_push_of_some _ e)
  have hC₁ := k _ _ hC
  have hget : ((h.push (W.kdv_tup rest)).push (HandSPX.excO C h.objs.size)).get? (h.objs.size + 1) = some (HandSPX.excO C h.objs.size) := by heap_get
  have hcC : (Value.ref C :: bm).contains (.ref C) = true := by simp
  have i1 := hi.keeps k
  have b1 := (hb (.ref (h.objs.size + 1))).keeps k
  unfold isInstance
  repeat (first | with_reducible refine wpAny_loadPart_at hget ?_ | (with_reducible refine wpAny_isSubtype_exc hC₁ ?_; rw [hcC]) | wp_step)
  show wpAny _ _ (typeLookup (.ref C) _) _ _ _
  refine i1.at ?_
  refine wpAny_holding (wpAny_bind (b1.at ?_))
  refine wpAny_bind (wpAny_call (codeAny_mono hq fun r s' z => ?_))
  rcases r with e | (v | _ | _ | _) <;> first | exact z | exact z.elim | skip
  obtain ⟨rfl, z⟩ := z
  first
    | exact wpAny_pure (wpAny_pure z)
    | (wp_walk; exact z)
theorem callK (F : ExcBaseFacts B newId initId bmB) (hB : Mro3 B C bm) {rest : List Value} {kw : List (Str × Value)} {fI : Addr}
    (hC : h.get? C = some (excClassObj nm q C N bs bm hdct sn sub ab col dd k0 k1 k2 k3 k5 newId))
    (hi : W.Looks (model prog w) h (typeLookup (.ref C) "__init__") (some (.ref fI))) (hb : ∀ self, W.Looks (model prog w) h (bindSpecial (.ref fI) self) (.ref fI, [self])) (hrest : rest.length ≤ sizeLine)
    (hq : codeAny (model prog w) (A.under (.builtin "type.__call__" ⟨.ref C :: rest, kw⟩)) (.call (.ref fI) ⟨.ref (h.objs.size + 1) :: rest, kw⟩) (W.InitBack (h.objs.size + 1) R)
      ⟨(h.push (W.kdv_tup rest)).push (HandSPX.excO C h.objs.size), g, d, t, os⟩) :
    codeAny (model prog w) A (.call (.ref C) ⟨rest, kw⟩) R ⟨h, g, d, t, os⟩ := by
  have f1 := tc_lookup
  have f2 := tc_bind (.ref C)
  have hTy : (⟨h, g, d, t, os⟩ : Shared).TypeIs (.ref C) "type" := ⟨_, hC, rfl⟩
  refine codeAny_of_tree ?_
  show wpAny _ _ (callAny (.ref C) _) _ _ _
  repeat (any_goals (first | assumption | with_reducible refine wpAny_loadPart_at hC ?_ | wp_step))
  refine ⟨rfl, ?_⟩
  refine codeAny_call_builtin_at (Code.quiet_builtin _ (by decide +kernel)) entry_typeCall (wpAny_check_type_call_sub hC (type_callK F hB hC hi hb hrest ?_))
  refine codeAny_mono hq fun r s' z => ?_
  rcases r with e | (v | _ | _ | _) <;> exact z
end
/-- a built-in base: where its __new__ is from, its __init__ -/
structure EB (B newId initId : String) (bmB : List Value) : Prop where
  ex : ∃ (Bn initN : String) (bmN : List Value), ExcBaseFacts Bn newId initN bmN ∧ bmB.contains (.type Bn) = true
  hasB : bmB.contains (.type B) = true
  noAttr : bmB.contains (.type "AttributeError") = false
  noName : bmB.contains (.type "NameError") = false
  plain : plainId initId = true
  initEntry : entryFor table initId = some Builtin.«BaseException.__init__»
  initSplit : splitId initId = some (B, "__init__")
  initKind : builtinKind initId = some .slot
  initRow : Manifest.signature? initId = some ⟨.positional, "*", B, .self, [⟨"args", .varPos, false⟩]⟩
  noStar : (B != "*") = true
theorem EB.of {B newId initId : String} {bmB : List Value} (F : ExcBaseFacts B newId initId bmB) : EB B newId initId bmB := ⟨⟨B, initId, bmB, F, F.hasB⟩, F.hasB, F.noAttr, F.noName, F.init.plain, F.initEntry, F.initSplit, F.initKind, F.initRow, F.noStar⟩
theorem EB.mro3 {B newId initId : String} {bmB bm : List Value} {C : Addr} (F : EB B newId initId bmB) (hT : ∀ X : String, bm.contains (.type X) = bmB.contains (.type X)) : ∃ (Bn initN : String) (bmN : List Value), ExcBaseFacts Bn newId initN bmN ∧ Mro3 Bn C bm := by
  obtain ⟨Bn, initN, bmN, Fn, hn⟩ := F.ex
  exact ⟨Bn, initN, bmN, Fn, by rw [List.contains_cons, hT, hn, Bool.or_true], by rw [List.contains_cons, hT, F.noAttr]; rfl, by rw [List.contains_cons, hT, F.noName]; rfl⟩
section
variable {M : Model} {A : Around} {E : Value → Shared → Prop} {h : Heap} {g : Array GenState} {d : Drawn} {t : Nat} {os : OsState}
variable {nm q : Str} {C N : Addr} {bs bm bmB : List Value} {hdct : Bool} {sn : List Str} {sub : List Value} {ab : Bool} {col : Option Bool} {dd : Option Addr} {k0 k1 k2 k3 k5 : Option Value} {B newId initId : String}
theorem check_initE (F : EB B newId initId bmB) (hT : ∀ X : String, bm.contains (.type X) = bmB.contains (.type X)) {e : Addr} {oe : Obj} {rest : List Value} {Q : Unit → Shared → Prop}
    (hC : h.get? C = some (excClassObj nm q C N bs bm hdct sn sub ab col dd k0 k1 k2 k3 k5 newId)) (he : h.get? e = some oe) (hcls : oe.cls = .ref C) (hq : Q () ⟨h, g, d, t, os⟩) :
    wpAny M A (checkBuiltinCall initId ⟨.ref e :: rest, []⟩) Q E ⟨h, g, d, t, os⟩ := by
  have hcB : (Value.ref C :: bm).contains (.type B) = true := by rw [List.contains_cons, hT, F.hasB, Bool.or_true]
  have hshort := F.noStar
  simp only [checkBuiltinCall, F.initKind, F.initSplit, F.initRow]
  repeat (first | (with_reducible refine wpAny_loadPart_at he ?_; rw [hcls]) | with_reducible refine wpAny_loadPart_at hC ?_ | (with_reducible refine wpAny_isSubtype_exc hC ?_; rw [hcB]) | wp_step)
  refine wpAny_onRaise ?_
  rw [show ∀ (a b : String) (n : Nat), Bind.check ⟨.positional, "*", B, .self, [⟨"args", .varPos, false⟩]⟩ a b n (List.map (fun x => x.fst) ({ pos := Value.ref e :: rest } : Args).kw) = pure () from
    fun a b n => check_star_args _ _ _ _ _ _]
  exact wpAny_pure hq
end
section
variable {prog : Program} {w : World} {A : Around} {E : Value → Shared → Prop} {R : Result → Shared → Prop} {h : Heap} {g : Array GenState} {d : Drawn} {t : Nat} {os : OsState}
variable {nm q : Str} {C N : Addr} {bs bm bmB : List Value} {hdct : Bool} {sn : List Str} {sub : List Value} {ab : Bool} {col : Option Bool} {dd : Option Addr} {k0 k1 k2 k3 k5 : Option Value} {B newId initId : String}
theorem init_baseE (F : EB B newId initId bmB) (hT : ∀ X : String, bm.contains (.type X) = bmB.contains (.type X)) {e t0 : Addr} {rest : List Value}
    (hC : h.get? C = some (excClassObj nm q C N bs bm hdct sn sub ab col dd k0 k1 k2 k3 k5 newId)) (he : h.get? e = some (HandSPX.excO C t0)) (hrest : rest.length ≤ sizeLine)
    (hq : ∀ h' t1, (∀ b o, b ≠ e → h.get? b = some o → h'.get? b = some o) → h'.get? e = some (HandSPX.excO C t1) → R (.ok (.ret .none)) ⟨h', g, d, t, os⟩) :
    codeAny (model prog w) A (.call (.builtin initId) ⟨.ref e :: rest, []⟩) R ⟨h, g, d, t, os⟩ := by
  refine codeAny_call_builtin F.plain F.initEntry (check_initE F hT hC he rfl ?_)
  wp_walk
  refine hq _ h.objs.size (fun b o hb ho => ?_) ?_
  · rw [Heap.get?_update_other _ _ (Ne.symm hb)]
    exact Heap.get?_push_of_some _ ho
  · rw [Heap.get?_update_self _ (Heap.get?_push_of_some _ he) rfl]
    rfl
end
abbrev bmKE : List Value := [.type "KeyError", .type "LookupError", .type "Exception", .type "BaseException", .type "object"]
theorem eb_KeyError : EB "KeyError" "LookupError.__new__" "KeyError.__init__" bmKE where
  ex := ⟨"LookupError", _, _, PySem.F.excBase_LookupError, by decide +kernel⟩
  hasB := by decide +kernel
  noAttr := by decide +kernel
  noName := by decide +kernel
  plain := by decide +kernel
  initEntry := entryFor_alias (id' := "BaseException.__init__") (by rw [fastTable_eq_tree]; kernel_rfl) (by first | rfl | decide +kernel) (by decide +kernel) (by rw [fastTable_eq_tree]; kernel_rfl)
  initSplit := by kernel_rfl
  initKind := by kernel_rfl
  initRow := by kernel_rfl
  noStar := by decide +kernel
theorem store_KeyError : StoreFacts "KeyError" bmKE "object.__setattr__" "object" where
  mro := by kernel_rfl
  slot := .of (owner := "object") (n := "__setattr__") (by rw [typeLookup_type, builtinLookup_eq_fast]; kernel_rfl) (by decide +kernel) (by decide +kernel) (by decide +kernel)
    (by first | exact .inl (by decide +kernel) | exact .inr (by decide +kernel)) (by rw [isSubtype_type]; kernel_rfl)
  entry := PySem.F.entry_object_sa
  kind := by decide +kernel
  split := by decide +kernel
  hasOwner := by decide +kernel
  args := fun a b c => by unfold argsOk; kernel_rfl
  passes := fun self => by kernel_rfl
end A

/-! ## exceptions: classes with an __init__ of their own over any built-in one -/
namespace A
open PySem PySem.Spec L2 PyProof.Rows
local macro_rules | `(tactic| walk_at "A.go") => `(tactic| simp only [aSeq, aNext, aSet, aVar, atV_s, onB_b, onI_i, onII_i, onL1_i, onL2_i, it_l, it_t, it_s, it_x, ix_l, ix_t, ix_s, add_i, add_x, eq_i, eq_x, eq_b, is_b, aC, aNil, aCons, aOp, aUn, aTup, aLst, aCB, aNot, aAnd, aOr, aTst, aIfE, aAndV, aOrV, aNotV, aChn, aDrop, aRet, aRetN, aIf, agName, agNil, agCons, agTup, aAsg, aPar, aAug, aFor, aRng1, aRng2, aIter, aLc, aYes,
  aCl, aMt, aMk, aFl, aFst, aNeg, aI2, aI20, aLe, aLt, aGt, aGe, aSub, aMod, aMul, aFdv, aPow, aXor, aShl, aShr, agSub, aoN, aoS, aSl, aRev, aLen, aList, aTupOf, aLRg1, aLRg2, aAbs, aI2N, aMax, aMin, aDm, aAll, aAny, aBM, aApp, aPopAt, aPop, aClear, aRevM, aExt, aRepr, aClD, aLnSt, aIAdd, aBreak, aCont,
  aEnd, startA, List.map_cons, List.map_nil, List.cons_append, List.nil_append, List.length_cons, List.length_nil, List.replicate, List.getElem?_cons_zero, List.getElem?_cons_succ, List.set_cons_zero, List.set_cons_succ, Nat.reduceAdd, Nat.reduceSub, Nat.succ_eq_add_one, Int.reduceAdd, Int.reduceMul,
  reduceIte, Bool.false_eq_true, Bool.not_true, Bool.not_false, ite_true, ite_false])
/-- a class of exceptions, over a built-in one whose mro is bmB -/
structure OexG (K : PySem.W.Frag) (C : Addr) (bmB : List Value) (newId : String) : Prop where
  made : PySem.W.excInitIn K C bmB newId = true
  over : PySem.W.excOver K C bmB = true
  dct : PySem.W.hasDictIn K C = true
  sa : PySem.W.findIn K (.ref C) "__setattr__" = some (some (.builtin "object.__setattr__"))
  exC : PySem.W.subIn K (.ref C) (.type "BaseException") = some true
  tyC : PySem.W.typeIn K (.ref C) = some (.type "type")
  kC : PySem.W.keepIn K (.ref C) = true
section
variable {X : Cx} {pins : List (Addr × Obj)} {σ : St} {H : Hp} {s : Shared} {a C dx : Addr} {f : Str} {y : V} {u : Value} {fs : List (Str × V)} {Q : Unit → Shared → Prop} {E : Value → Shared → Prop} {Ar : Around} {B newId initId : String} {bmB : List Value}
/-- what is tracked: the exception and its dict have changed -/
def Chg (H H' : Hp) (a C dx : Addr) (fs : List (Str × V)) : Prop := H' a = some (exo a C (some dx)) ∧ H' dx = some (exd dx fs) ∧ dx ≠ a ∧ ∀ b, b ≠ a → b ≠ dx → H' b = H b
/-- the first field: its dict is made -/
theorem fld_first (SF : PySem.StoreFacts B bmB "object.__setattr__" "object") (T : OexG X.K C bmB newId) (I : Inv X pins σ H s) (e : H a = some (exo a C none)) (hno : PySem.W.takerIn X.K C f = some none) (ry : RelV y u)
    (h : ∀ dx H' s', H dx = none → Chg H H' a C dx [(f, y)] → Inv X pins σ H' s' → Q () s') : wpAny (model X.prog X.w) Ar (setAttr (.ref a) f u) Q E s := by
  obtain ⟨t1, ho⟩ := exo_at I.hok e
  obtain ⟨hp, g, d, t, os⟩ := s
  refine PySem.W.set_plain (od := none) I.kIn ⟨ho, rfl, rfl, trivial⟩ T.sa (PySem.W.osa_openX (s := ⟨hp, g, d, t + 1, os⟩) (od := none) SF I.kIn ⟨ho, rfl, rfl, trivial⟩ T.over hno fun b => ?_)
  obtain ⟨cd, hc, hd'⟩ := PySem.W.any_some T.dct
  refine wpAny_bind (wpAny_pure (wpAny_bind (PySem.W.instanceDict_exc (s := ⟨hp, g, d, t + 1, os⟩) ho (PySem.W.looks_clsIn I.kIn hc) hd' ?_)))
  have na : a ≠ hp.objs.size := Nat.ne_of_lt (Heap.lt_size ho)
  have hn : H hp.objs.size = none := I.hok.fresh (Nat.le_refl _)
  -- the new dict
  have hpush : (hp.push (PySem.W.dictOf [] 0)).get? hp.objs.size = some (PySem.W.dictOf [] 0) := Heap.get?_push_at rfl rfl
  have ns0 : (hp.push (PySem.W.dictOf [] 0)).Ns1 hp.objs.size (fun _ => none) := Heap.Ns1.of_empty ⟨_, #[], _, hpush, rfl, fun e he => absurd he (by simp), fun _ => rfl⟩
  have I1 : Inv X pins σ (upd H hp.objs.size (exd hp.objs.size [])) ⟨hp.push (PySem.W.dictOf [] 0), g, d, t + 1, os⟩ :=
    I.laid (t' := t + 1) (fun b o q => Heap.get?_push_of_some _ q) (Nat.le_refl _) (exd_ok ns0 fun g => True.intro)
  -- the exception has it
  have hx1 : (hp.push (PySem.W.dictOf [] 0)).get? a = some (PySem.W.excObj C t1 none .none) := Heap.get?_push_of_some _ ho
  have e1 : upd H hp.objs.size (exd hp.objs.size []) a = some (exo a C none) := by rw [upd_ne na]; exact e
  have hx2 : ((hp.push (PySem.W.dictOf [] 0)).update a fun o => { o with dict := some hp.objs.size }).get? a = some (PySem.W.excObj C t1 (some hp.objs.size) .none) := Heap.get?_update_self _ hx1 rfl
  have I2 : Inv X pins σ (upd (upd H hp.objs.size (exd hp.objs.size [])) a (exo a C (some hp.objs.size))) ⟨(hp.push (PySem.W.dictOf [] 0)).update a fun o => { o with dict := some hp.objs.size }, g, d, t + 1, os⟩ :=
    I1.write (t' := t + 1) (by rw [e1]; exact True.intro) (.inl rfl) (fun b o hb q => (Heap.get?_update_ne _ _ _ _ hb).trans q) ⟨_, hx2⟩ (exo_ok hx2)
  have hd2 : ((hp.push (PySem.W.dictOf [] 0)).update a fun o => { o with dict := some hp.objs.size }).get? hp.objs.size = some (PySem.W.dictOf [] 0) := (Heap.get?_update_ne _ _ _ _ (Ne.symm na)).trans hpush
  -- the field
  refine HandSPX.store_in_new ⟨_, #[], _, hd2, rfl, fun e he => absurd he (by simp), fun _ => rfl⟩ fun h' tk' hns hsb => ?_
  have e2 : (upd (upd H hp.objs.size (exd hp.objs.size [])) a (exo a C (some hp.objs.size))) hp.objs.size = some (exd hp.objs.size []) := by rw [upd_ne (Ne.symm na), upd_same]
  have hd3 : ∃ o, h'.get? hp.objs.size = some o := by
    obtain ⟨o, _, _, z, _⟩ := hns
    exact ⟨o, z⟩
  have I3 := I2.write (t' := tk') (x := hp.objs.size) (e := hp.objs.size) (o := exd hp.objs.size [(f, y)]) (by rw [e2]; exact True.intro) (.inl rfl) (fun b o hb q => (hsb.2 b hb).trans q) hd3 (exd_ok hns (relO_put (fs := []) (mA := fun _ => none) ry fun g => True.intro))
  refine h hp.objs.size _ _ hn ⟨?_, upd_same, Ne.symm na, fun b b1 b2 => ?_⟩ I3
  · rw [upd_ne na, upd_same]
  · rw [upd_ne b2, upd_ne b1, upd_ne b2]
/-- a further field -/
theorem fld_next (SF : PySem.StoreFacts B bmB "object.__setattr__" "object") (T : OexG X.K C bmB newId) (I : Inv X pins σ H s) (e : H a = some (exo a C (some dx))) (ed : H dx = some (exd dx fs)) (hl : fs.length ≤ 900) (hno : PySem.W.takerIn X.K C f = some none) (ry : RelV y u)
    (h : ∀ H' s', Chg H H' a C dx ((f, y) :: fs) → Inv X pins σ H' s' → Q () s') : wpAny (model X.prog X.w) Ar (setAttr (.ref a) f u) Q E s := by
  obtain ⟨t1, ho⟩ := exo_at I.hok e
  obtain ⟨mA, hns, rel⟩ := exd_at I.hok ed
  have hw := within_of rel
  obtain ⟨hp, g, d, t, os⟩ := s
  obtain ⟨oD, _, _, hoD, _, _⟩ := hns.count hw
  have na : a ≠ dx := fun z => by
    rw [← z] at ed
    rw [e] at ed
    obtain ⟨o, es, ep, q1, q2, _⟩ := hns
    rw [← z, ho] at q1
    cases q1
    cases q2
  refine PySem.W.set_plain (od := some oD) I.kIn ⟨ho, rfl, rfl, hoD⟩ T.sa (PySem.W.osa_openX (s := ⟨hp, g, d, t + 1, os⟩) (od := some oD) SF I.kIn ⟨ho, rfl, rfl, hoD⟩ T.over hno fun b => ?_)
  obtain ⟨cd, hc, hd'⟩ := PySem.W.any_some T.dct
  refine wpAny_bind (wpAny_pure (wpAny_bind (wpAny_bind (wpAny_loadPart_at ho (wpAny_bind ((PySem.W.looks_clsIn I.kIn hc).at ?_))))))
  rw [hd']
  refine wpAny_pure (a := some dx) ?_
  refine OEX.store_in_old hns hw (by rw [List.length_map]; omega) fun h' tk' hns' hsb => ?_
  have hd3 : ∃ o, h'.get? dx = some o := by
    obtain ⟨o, _, _, z, _⟩ := hns'
    exact ⟨o, z⟩
  have I3 := I.write (t' := tk') (x := dx) (e := dx) (o := exd dx ((f, y) :: fs)) (by rw [ed]; exact True.intro) (.inl rfl) (fun b o hb q => (hsb.2 b hb).trans q) hd3 (exd_ok hns' (relO_put ry rel))
  refine h _ _ ⟨by rw [upd_ne na]; exact e, upd_same, Ne.symm na, fun b b1 b2 => upd_ne b2⟩ I3
/-- the base's __init__(self, ..): nothing of it is told -/
theorem base_init {us : List Value} {Q : Value → Shared → Prop} (F : EB B newId initId bmB) (T : OexG X.K C bmB newId) (I : Inv X pins σ H s) (e : H a = some (exo a C none)) (hl : us.length ≤ sizeLine) (h : ∀ s', Inv X pins σ H s' → Q .none s') :
    wpAny (model X.prog X.w) Ar (call (.builtin initId) (.ref a :: us)) Q E s := by
  obtain ⟨nm, N, qn, bs, bm, hdct, sn, sub, ab, col, dd, k0, k1, k2, k3, k5, hC, hT⟩ := PySem.W.excInit_of I.kIn T.made
  obtain ⟨t1, ho⟩ := exo_at I.hok e
  obtain ⟨hp, g, d, t, os⟩ := s
  refine wpAny_call (init_baseE F hT hC ho hl fun h' t2 k hx => ?_)
  have J := I.write (t' := t) (x := a) (e := a) (o := exo a C none) (by rw [e]; exact True.intro) (.inl rfl) k ⟨_, hx⟩ (exo_ok hx)
  have eu : upd H a (exo a C none) = H := funext fun b => by
    unfold upd
    split
    · rename_i z; rw [z, e]
    · rfl
  exact h _ (eu ▸ J)
end
end A

/-! ## raise -/
namespace A
open PySem PySem.Spec L2 PyProof.Rows ClX
local macro_rules | `(tactic| walk_at "A.go") => `(tactic| simp only [aSeq, aNext, aSet, aVar, atV_s, onB_b, onI_i, onII_i, onL1_i, onL2_i, it_l, it_t, it_s, it_x, ix_l, ix_t, ix_s, add_i, add_x, eq_i, eq_x, eq_b, is_b, aC, aNil, aCons, aOp, aUn, aTup, aLst, aCB, aNot, aAnd, aOr, aTst, aIfE, aAndV, aOrV, aNotV, aChn, aDrop, aRet, aRetN, aIf, agName, agNil, agCons, agTup, aAsg, aPar, aAug, aFor, aRng1, aRng2, aIter, aLc, aYes,
  aCl, aMt, aMk, aFl, aFst, aNeg, aI2, aI20, aLe, aLt, aGt, aGe, aSub, aMod, aMul, aFdv, aPow, aXor, aShl, aShr, agSub, aoN, aoS, aSl, aRev, aLen, aList, aTupOf, aLRg1, aLRg2, aAbs, aI2N, aMax, aMin, aDm, aAll, aAny, aBM, aApp, aPopAt, aPop, aClear, aRevM, aExt, aRepr, aClD, aLnSt, aIAdd, aBreak, aCont,
  aEnd, startA, List.map_cons, List.map_nil, List.cons_append, List.nil_append, List.length_cons, List.length_nil, List.replicate, List.getElem?_cons_zero, List.getElem?_cons_succ, List.set_cons_zero, List.set_cons_succ, Nat.reduceAdd, Nat.reduceSub, Nat.succ_eq_add_one, Int.reduceAdd, Int.reduceMul,
  reduceIte, Bool.false_eq_true, Bool.not_true, Bool.not_false, ite_true, ite_false])
section
variable {X : Cx} {W : WX} {B newId initId : String} {bmB : List Value} {o e : Expr} {es : List Expr} {to te : TE} {ta : TA} {f x : Str} {p p' p1 p2 pos : Pos}
def tBaseI (K : PySem.W.Frag) (bmB : List Value) (newId : String) (ta : TA) : TE := fun σ H Q => ta σ H fun vs H1 => ∃ (a C : Addr) (ws : List V), vs = .ref a :: ws ∧ ws.length ≤ 1000 ∧ OexG K C bmB newId ∧ H1 a = some (exo a C none) ∧ Q .non H1
theorem base_args (F : EB B newId initId bmB) {pins : List (Addr × Obj)} {σ : St} {H : Hp} {s1 : Shared} {Q : VK} {us : List Value} (h : ∃ vs H1, Inv X pins σ H1 s1 ∧ Vals vs us ∧ ∃ (a C : Addr) (ws : List V), vs = .ref a :: ws ∧ ws.length ≤ 1000 ∧ OexG X.K C bmB newId ∧ H1 a = some (exo a C none) ∧ Q .non H1) :
    wpAny (model X.prog X.w) X.A (call (.builtin initId) us) (EP X pins σ Q) X.xe s1 := by
  obtain ⟨vs, H1, I1, r1, a, C, ws, rfl, hl, T, ea, q⟩ := h
  cases r1 with
  | @cons _ u0 _ ur ra rw' =>
    obtain rfl : u0 = Value.ref a := ra
    exact base_init F T I1 ea (by rw [← Paired.length rw', sizeLine_eq]; omega) fun s' J => ⟨.non, H1, J, rfl, q⟩
/-- Base.__init__(self, ..), Base a built-in class -/
theorem pe_init_ty (F : EB B newId initId bmB) {pl : Sem Bool} (hty : typeOf (.type B) = pure (.type "type")) (hst : Manifest.isStub B = false) (hm : X.mg x = none) (hv : bootBuiltins x = some (.type B)) (vV : PySem.W.findCls X.K (.type B) (.type "type") "__init__" = some (.val (.builtin initId)))
    (hh : PySem.W.handedIn (.builtin initId) = true) (ha : PA X (e :: es) ta) (hg : Gl X x := by rfl) (hn : x ≠ "__name__" := by decide) (hdb : (x == ("__debug__" : Str)) = false := by decide)
    (hc : eval (.Call (.Attribute (.Name x p1) "__init__" p2) (e :: es) [] pos) X.env = (do
      let ov ← eval (.Name x p1) X.env
      standAt p2.atName
      let (f, first) ← holding [ov] (getMethod ov "__init__" pl)
      callWith pos f first (backTo pos (starEach (e :: es) X.env)) (backToKw pos (keywordEach [] X.env))) := by rfl)
    (he : starEach (e :: es) X.env = (false, eval e X.env) :: starEach es X.env := by rfl) (hpl : (backTo pos (starEach es X.env)).any (·.1) = false := by rfl) :
    PE X (.Call (.Attribute (.Name x p1) "__init__" p2) (e :: es) [] pos) (tBaseI X.K bmB newId ta) := by
  refine ⟨fun pins s σ H Q I h => PySem.W.methodCall_KW (ld_blt I hg hm hv ?_ hn hdb) hc⟩
  obtain ⟨m, fr⟩ := I.fr
  refine PySem.W.method_type fr I.ok.mod.kin hty hst vV hh ?_
  show wpAny _ _ (callWith pos (Value.builtin initId) [] (backTo pos (starEach (e :: es) X.env)) []) _ _ _
  exact callWith_method1 (thn (ha.run pos pins _ σ H _ (I.tok _) h) fun us s1 ⟨vs, H1, I1, r1, q⟩ => base_args F (H := H) ⟨vs, H1, I1, r1, q⟩) he hpl
/-- .. a class of the module, its __init__ the built-in one -/
theorem pe_init_cl (F : EB B newId initId bmB) {pl : Sem Bool} {D mc : Addr} {mv : Value} (hm : X.mg x = some (.ref D)) (hrd : ClX.CRead X.K D mv) (vV : PySem.W.findCls X.K (.ref D) mv "__init__" = some (.val (.builtin initId))) (hh : PySem.W.handedIn (.builtin initId) = true) (ha : PA X (e :: es) ta) (hg : Gl X x := by rfl)
    (hdb : (x == ("__debug__" : Str)) = false := by decide)
    (hc : eval (.Call (.Attribute (.Name x p1) "__init__" p2) (e :: es) [] pos) X.env = (do
      let ov ← eval (.Name x p1) X.env
      standAt p2.atName
      let (f, first) ← holding [ov] (getMethod ov "__init__" pl)
      callWith pos f first (backTo pos (starEach (e :: es) X.env)) (backToKw pos (keywordEach [] X.env))) := by rfl)
    (he : starEach (e :: es) X.env = (false, eval e X.env) :: starEach es X.env := by rfl) (hpl : (backTo pos (starEach es X.env)).any (·.1) = false := by rfl) :
    PE X (.Call (.Attribute (.Name x p1) "__init__" p2) (e :: es) [] pos) (tBaseI X.K bmB newId ta) := by
  refine ⟨fun pins s σ H Q I h => PySem.W.methodCall_KW (pl := pl) (ld_glob I hg hm ?_ hdb) hc⟩
  refine PySem.W.method_cls I.kIn hrd.ga (PySem.W.cls_value I.kIn hrd.rd vV hh ?_)
  show wpAny _ _ (callWith pos (Value.builtin initId) [] (backTo pos (starEach (e :: es) X.env)) []) _ _ _
  exact callWith_method1 (thn (ha.run pos pins _ σ H _ (I.tok _) h) fun us s1 ⟨vs, H1, I1, r1, q⟩ => base_args F (H := H) ⟨vs, H1, I1, r1, q⟩) he hpl
/-- self.f = e -/
def tFldG (K : PySem.W.Frag) (bmB : List Value) (newId : String) (f : Str) (to te : TE) : TS := fun D σ H => te σ H fun y H1 => to σ H1 fun x H2 => ∃ a C : Addr, x = .ref a ∧ OexG K C bmB newId ∧ PySem.W.takerIn K C f = some none ∧
  ((H2 a = some (exo a C none) ∧ ∀ dx H', H2 dx = none → Chg H2 H' a C dx [(f, y)] → D.nx σ H') ∨
    ∃ (dx : Addr) (fs : List (Str × V)), H2 a = some (exo a C (some dx)) ∧ H2 dx = some (exd dx fs) ∧ fs.length ≤ 900 ∧ ∀ H', Chg H2 H' a C dx ((f, y) :: fs) → D.nx σ H')
theorem ps_fldG (SF : PySem.StoreFacts B bmB "object.__setattr__" "object") (ho : PE X o to) (he : PE X e te) (hs : swapsWith e (some (.Attribute o f p')) pos.line X.env = pure false := by rfl) : PS X (.Assign [.Attribute o f p'] e pos) (tFldG X.K bmB newId f to te) := by
  refine ⟨fun pins s σ H D I h => plainObj_wpAny_Assign_Attribute (thn (he.run pins s σ H _ I h) fun v s1 ⟨y, H1, I1, r1, q1⟩ => thn (ho.run pins s1 σ H1 _ I1 q1) fun u s2 ⟨x, H2, I2, r2, a, C, ex, T, hno, q⟩ => ?_) hs⟩
  subst ex
  obtain rfl : u = Value.ref a := r2
  rcases q with ⟨ea, q⟩ | ⟨dx, fs, ea, ed, hl, q⟩
  · exact fld_first SF T I2 ea hno r1 fun dx H' s' n ch J => ⟨σ, H', J, q dx H' n ch⟩
  · exact fld_next SF T I2 ea ed hl hno r1 fun H' s' ch J => ⟨σ, H', J, q H' ch⟩
/-- what the __init__ of such a class keeps: its fields, the last one first -/
def spExi (C : Addr) (fn : List Str) : Sp := fun vs H Q _ => ∃ (a : Addr) (ys : List V), vs = .ref a :: ys ∧ ys.length = fn.length ∧ H a = some (exo a C none) ∧ ∀ dx H', H dx = none → Chg H H' a C dx (fn.zip ys).reverse → Q .non H'
def tRz (C : Addr) (fn : List Str) (ta : TA) : St → Hp → XK → Prop := fun σ H Q => ta σ H fun vs H1 => vs.length = fn.length ∧ vs.length ≤ 1000 ∧ ∀ d, H1 d = none → Q (.ref C) (some d) (upd H1 d (.xd (fn.zip vs).reverse))
theorem pmk_G {C fI : Addr} {k : Nat} {fd : FuncData} {ps fn : List Str} (F : EB B newId initId bmB) (T : OexG X.K C bmB newId) (iC : PySem.W.findIn X.K (.ref C) "__init__" = some (some (.ref fI))) (tI : PySem.W.typeIn X.K (.ref fI) = some (.type "function"))
    (F1 : FnG X.prog X.w X.K X.mg X.base k fI fd ps (spExi C fn)) (hr : RoomG (k + 1) X.A) (hb : Binds X.K fd ps []) (hm : X.mg x = some (.ref C)) (ha : PA X (e :: es) ta) (hg : Gl X x := by rfl)
    (hdb : (x == ("__debug__" : Str)) = false := by decide) (he : starEach (e :: es) X.env = (false, eval e X.env) :: starEach es X.env := by rfl) (hpl : (backTo pos (starEach es X.env)).any (·.1) = false := by rfl) :
    PMk X (.Call (.Name x p) (e :: es) [] pos) (tRz C fn ta) := by
  intro pins s σ H Q I h
  refine wpAny_Call_Name_kw (ld_glob I hg hm ?_ hdb)
  refine PySem.W.callWith_K (h₀ := X.base) I.ok.mod.kin T.kC (thn (ha.run pos pins s σ H _ I h) fun us s1 ⟨vs, H1, I1, r1, hz, hz2, q1⟩ => ⟨I1.kIn, ?_⟩) he hpl
  show wpAny _ _ (call (.ref C) us) _ _ _
  obtain ⟨hp, g, dr, tk, os⟩ := s1
  obtain ⟨nm, N, qn, bs, bm, hdct, sn, sub, ab, col, dd, k0, k1, k2, k3, k5, hC, hT⟩ := PySem.W.excInit_of I1.kIn T.made
  have hsz : hp.objs.size ≤ hp.objs.size + 1 := Nat.le_succ _
  have hn : H1 (hp.objs.size + 1) = none := I1.hok.fresh hsz
  have kk : ∀ b o, hp.get? b = some o → ((hp.push (PySem.W.kdv_tup us)).push (HandSPX.excO C hp.objs.size)).get? b = some o := fun b o z => Heap.get?_push_of_some _ (Heap.get?_push_of_some _ z)
  have hget : ((hp.push (PySem.W.kdv_tup us)).push (HandSPX.excO C hp.objs.size)).get? (hp.objs.size + 1) = some (HandSPX.excO C hp.objs.size) := by heap_get
  have I2 : Inv X pins σ (upd H1 (hp.objs.size + 1) (exo (hp.objs.size + 1) C none)) ⟨(hp.push (PySem.W.kdv_tup us)).push (HandSPX.excO C hp.objs.size), g, dr, tk, os⟩ := I1.laid (t' := tk) kk hsz (exo_ok hget)
  have r2 : Vals (V.ref (hp.objs.size + 1) :: vs) (Value.ref (hp.objs.size + 1) :: us) := .cons rfl r1
  have hq : spExi C fn (.ref (hp.objs.size + 1) :: vs) (upd H1 (hp.objs.size + 1) (exo (hp.objs.size + 1) C none))
      (fun v H2 => v = .non ∧ ∃ d, H1 d = none ∧ Chg (upd H1 (hp.objs.size + 1) (exo (hp.objs.size + 1) C none)) H2 (hp.objs.size + 1) C d (fn.zip vs).reverse) (fun _ _ _ => False) :=
    ⟨_, vs, rfl, hz, upd_same, fun dx H' n ch => ⟨rfl, dx, by rw [upd_ne ch.2.2.1] at n; exact n, ch⟩⟩
  have hl : ((Value.ref (hp.objs.size + 1) :: us) ++ []).length = ps.length := by rw [List.append_nil, ← r2.length]; exact F1.len _ _ _ _ hq
  have hus : us.length ≤ sizeLine := by rw [← Paired.length r1, sizeLine_eq]; omega
  have hb' := hb _ (Value.ref (hp.objs.size + 1) :: us) I2.kIn hl
  rw [List.append_nil] at hb'
  obtain ⟨_, _, _, Fn, hB⟩ := F.mro3 (C := C) hT
  refine wpAny_call (callK (kw := []) Fn hB hC (PySem.W.looks_findIn I1.kIn iC) (fun self => PySem.W.bind_fn I1.kIn self tI) hus
    (codeAny_mono (F1.run _ X.stack _ _ ⟨Value.ref (hp.objs.size + 1) :: us, []⟩ (Value.ref (hp.objs.size + 1) :: us) _ _ (fun _ _ _ => False) (hr.make C us []) (I2.env0.make C us []) hb' r2 hq) fun r s' hq' => ?_))
  cases r with
  | error er =>
    obtain ⟨_, _, _, _, _, _, _, _, _, _, _, _, z⟩ := hq'
    exact z.elim
  | ok fl =>
    cases fl with
    | ret u =>
      obtain ⟨v, H2, os2, bare2, un2, hok2, rv, ev, d, hd1, ch⟩ := hq'
      subst ev
      obtain ⟨h2, g2, d2, t2, os'⟩ := s'
      refine ⟨rv, mk_end (raises_own T.exC T.tyC) I1 hsz kk un2 hok2 os2 bare2 ch.1 ch.2.1 hd1 ?_⟩
      have eH : upd (del H2 (hp.objs.size + 1)) d (.xd (fn.zip vs).reverse) = upd H1 d (.xd (fn.zip vs).reverse) := funext fun b => by
        by_cases b1 : b = d
        · rw [b1, upd_same, upd_same]
        · rw [upd_ne b1, upd_ne b1]
          by_cases b2 : b = hp.objs.size + 1
          · rw [b2, L2.del_same, hn]
          · rw [L2.del_ne b2, ch.2.2.2 b b2 b1, upd_ne b2]
      rw [eH]
      exact q1 d hd1
    | next => exact hq'.elim
    | brk => exact hq'.elim
    | cont => exact hq'.elim
/-! ### the readings over data -/
theorem dvP_rev {κ : Type} {K : KW} {F : Hp} : ∀ {l : List (κ × V)} {m : List (κ × D)}, DvP K F l m → DvP K F l.reverse m.reverse := by
  intro l m h
  have app : ∀ {l l' : List (κ × V)} {m m' : List (κ × D)}, DvP K F l m → DvP K F l' m' → DvP K F (l ++ l') (m ++ m') := fun {l l' m m'} h k => by
    induction h with
    | nil => exact k
    | cons a t ih => exact .cons a ih
  induction h with
  | nil => exact .nil
  | cons a t ih =>
    rw [List.reverse_cons, List.reverse_cons]
    exact app ih (.cons a .nil)
theorem dvP_zip {κ : Type} {K : KW} {F : Hp} : ∀ {fn : List κ} {vs : List V} {ds : List D}, DvL K F vs ds → DvP K F (fn.zip vs) (fn.zip ds)
  | [], _, _, _ => .nil
  | _ :: _, _, _, .nil => .nil
  | _ :: _, _, _, .cons h t => .cons ⟨rfl, h⟩ (dvP_zip t)
/-- a class of the module whose instances are so made -/
structure RzF (P : Program) (w : World) (K : PySem.W.Frag) (mg : Str → Option Value) (base : Heap) (x : Str) (C : Addr) (k : Nat) (fn : List Str) : Prop where
  ex : ∃ (B newId initId : String) (bmB : List Value) (fI : Addr) (fd : FuncData) (ps : List Str), mg x = some (.ref C) ∧ EB B newId initId bmB ∧ OexG K C bmB newId ∧ PySem.W.findIn K (.ref C) "__init__" = some (some (.ref fI)) ∧ PySem.W.typeIn K (.ref fI) = some (.type "function") ∧
    Binds K fd ps [] ∧ FnG P w K mg base k fI fd ps (spExi C fn)
end
end A

/-! ## try .. except -/
namespace A
open PySem PySem.Spec L2 PyProof.Rows
local macro_rules | `(tactic| walk_at "A.go") => `(tactic| simp only [aSeq, aNext, aSet, aVar, atV_s, onB_b, onI_i, onII_i, onL1_i, onL2_i, it_l, it_t, it_s, it_x, ix_l, ix_t, ix_s, add_i, add_x, eq_i, eq_x, eq_b, is_b, aC, aNil, aCons, aOp, aUn, aTup, aLst, aCB, aNot, aAnd, aOr, aTst, aIfE, aAndV, aOrV, aNotV, aChn, aDrop, aRet, aRetN, aIf, agName, agNil, agCons, agTup, aAsg, aPar, aAug, aFor, aRng1, aRng2, aIter, aLc, aYes,
  aCl, aMt, aMk, aFl, aFst, aNeg, aI2, aI20, aLe, aLt, aGt, aGe, aSub, aMod, aMul, aFdv, aPow, aXor, aShl, aShr, agSub, aoN, aoS, aSl, aRev, aLen, aList, aTupOf, aLRg1, aLRg2, aAbs, aI2N, aMax, aMin, aDm, aAll, aAny, aBM, aApp, aPopAt, aPop, aClear, aRevM, aExt, aRepr, aClD, aLnSt, aIAdd, aBreak, aCont,
  aEnd, startA, List.map_cons, List.map_nil, List.cons_append, List.nil_append, List.length_cons, List.length_nil, List.replicate, List.getElem?_cons_zero, List.getElem?_cons_succ, List.set_cons_zero, List.set_cons_succ, Nat.reduceAdd, Nat.reduceSub, Nat.succ_eq_add_one, Int.reduceAdd, Int.reduceMul,
  reduceIte, Bool.false_eq_true, Bool.not_true, Bool.not_false, ite_true, ite_false])
/-- an exception, caught, as data -/
def exD (a : Addr) (dd : Option Addr) (x : Xn) : D := .exc a dd (x.fs.map (·.1)) (x.fs.map (·.2))
theorem dvP_split {K : KW} {F : Hp} : ∀ {gs : List (Str × V)} {fs : List (Str × D)}, DvP K F gs fs → gs.map (·.1) = fs.map (·.1) ∧ DvL K F (gs.map (·.2)) (fs.map (·.2))
  | _, _, .nil => ⟨rfl, .nil⟩
  | _, _, .cons h t => ⟨congr (congrArg _ h.1) (dvP_split t).1, .cons h.2 (dvP_split t).2⟩
/-- its dict stands from now on -/
theorem caught {K : KW} {F H : Hp} {S R : Sto} {cls : Value} {dd : Option Addr} {x : Xn} (T : Sta K F S R H) (h : XR K F H cls dd x) (a : Addr) : ∃ F', Same F F' ∧ Sta K F' S R H ∧ Dv K F' (.ref a) (exD a dd x) := by
  obtain ⟨_, h⟩ := h
  rcases h with ⟨ed, e⟩ | ⟨dx, gs, ed, hd, hp⟩
  · refine ⟨F, Same.refl _, T, ?_⟩
    unfold exD
    rw [e, ed]
    exact .exc0
  · subst ed
    obtain ⟨h1, h2⟩ := dvP_split hp
    have kind : ∀ {c : Cell}, CellOk K F H dx c → False := fun {c} hc => by
      cases c with
      | lst ds => obtain ⟨_, xs, z, _⟩ := hc; rw [hd] at z; cases z
      | dct m => obtain ⟨_, l, z, _⟩ := hc; rw [hd] at z; cases z
      | ins C fs => obtain ⟨_, _, z, _⟩ := hc; rw [hd] at z; cases z
      | pot => obtain ⟨_, _, z, _⟩ := hc; rw [hd] at z; cases z
      | dtt m => obtain ⟨_, l, z, _⟩ := hc; rw [hd] at z; cases z
    have sm : Same F (upd F dx (.xd gs)) := fun b u e => by
      by_cases q : b = dx
      · subst q
        rw [upd_same]
        have := T.le _ _ e
        rw [hd] at this
        exact this
      · rw [upd_ne q]
        exact e
    refine ⟨upd F dx (.xd gs), sm, ⟨fun b u e => ?_, fun b c e => ?_, fun b c e => ?_⟩, .exc upd_same h1 (h2.mono sm)⟩
    · by_cases q : b = dx
      · subst q
        rw [upd_same] at e
        cases e
        exact hd
      · rw [upd_ne q] at e
        exact T.le b u e
    · obtain ⟨z1, z2⟩ := T.own b c e
      have q : b ≠ dx := by rintro rfl; exact kind z2
      exact ⟨by rw [upd_ne q]; exact z1, z2.mono sm fun u z => z⟩
    · obtain ⟨z1, z3, z2⟩ := T.hid b c e
      have q : b ≠ dx := by rintro rfl; exact kind z2
      exact ⟨by rw [upd_ne q]; exact z1, z3, z2.mono sm fun u z => z⟩
section
variable {X : Cx} {Wout : WX} {x n : Str} {c : Value} {i : Nat} {body suite : List Stmt} {b₀ : Stmt} {np pos pos' : Pos} {tb : WX → TS} {ab : AS}
/-- what a suite tells, the exception x being held as a -/
abbrev ASx := Addr → Option Addr → Xn → AS
end
end A

/-! ## a caught exception: isinstance, its fields -/
namespace A
open PySem PySem.Spec L2 PyProof.Rows
local macro_rules | `(tactic| walk_at "A.go") => `(tactic| simp only [aSeq, aNext, aSet, aVar, atV_s, onB_b, onI_i, onII_i, onL1_i, onL2_i, it_l, it_t, it_s, it_x, ix_l, ix_t, ix_s, add_i, add_x, eq_i, eq_x, eq_b, is_b, aC, aNil, aCons, aOp, aUn, aTup, aLst, aCB, aNot, aAnd, aOr, aTst, aIfE, aAndV, aOrV, aNotV, aChn, aDrop, aRet, aRetN, aIf, agName, agNil, agCons, agTup, aAsg, aPar, aAug, aFor, aRng1, aRng2, aIter, aLc, aYes,
  aCl, aMt, aMk, aFl, aFst, aNeg, aI2, aI20, aLe, aLt, aGt, aGe, aSub, aMod, aMul, aFdv, aPow, aXor, aShl, aShr, agSub, aoN, aoS, aSl, aRev, aLen, aList, aTupOf, aLRg1, aLRg2, aAbs, aI2N, aMax, aMin, aDm, aAll, aAny, aBM, aApp, aPopAt, aPop, aClear, aRevM, aExt, aRepr, aClD, aLnSt, aIAdd, aBreak, aCont,
  aEnd, startA, List.map_cons, List.map_nil, List.cons_append, List.nil_append, List.length_cons, List.length_nil, List.replicate, List.getElem?_cons_zero, List.getElem?_cons_succ, List.set_cons_zero, List.set_cons_succ, Nat.reduceAdd, Nat.reduceSub, Nat.succ_eq_add_one, Int.reduceAdd, Int.reduceMul,
  reduceIte, Bool.false_eq_true, Bool.not_true, Bool.not_false, ite_true, ite_false])
/-- what isinstance asks of an exception's class, and a field's reading -/
structure ExcG (K : PySem.W.Frag) (C : Addr) : Prop where
  cl : (PySem.W.clsIn K C).isSome = true
  ga : PySem.W.findIn K (.ref C) "__getattribute__" = some (some (.builtin "BaseException.__getattribute__"))
  gg : PySem.W.findIn K (.ref C) "__getattr__" = some none
  exC : PySem.W.subIn K (.ref C) (.type "BaseException") = some true
  hdC : PySem.W.hasDictIn K C = true
  ca : PySem.W.findIn K (.ref C) "__class__" = some (some (.builtin "object.__class__"))
  cn : PySem.W.specialIn K (.builtin "object.__class__") "__get__" = some (some (.builtin "getset_descriptor.__get__"))
  ct : PySem.W.takesIn K (.builtin "object.__class__") = some true
  cm : PySem.W.mroIn K C (.type "object") = some true
section
variable {X : Cx} {a C : Addr} {oe : Obj} {d : Option Addr} {pn : List (Addr × Obj)}
/-- the dict of an exception stands -/
def XdAt (H : Hp) (d : Option Addr) : Prop := d = none ∨ ∃ dx gs, d = some dx ∧ H dx = some (.xd gs)
theorem exc_inst {P : Program} {w : World} {H : Hp} {h : Heap} (hok : HOk P w H h) (hz : Zc (.ref C) d oe) (hf : ∃ vs, oe.data = .fields vs) (hx : XdAt H d) (ha : h.get? a = some oe) : ∃ od, PySem.W.InstAt h a oe C od := by
  obtain ⟨vs, hv⟩ := hf
  have nc : PySem.W.notCls oe = true := by unfold PySem.W.notCls; rw [hv]
  rcases hx with rfl | ⟨dx, gs, rfl, hd⟩
  · exact ⟨none, ha, hz.1, nc, by rw [hz.2]; exact True.intro⟩
  · have hx : ObjOk P w H h dx (.xd gs) := hok dx _ hd
    obtain ⟨mA, hns, hr⟩ := hx
    obtain ⟨od, ho, hl⟩ := lookIn_ns hns
    exact ⟨some od, ha, hz.1, nc, by rw [hz.2]; exact ho⟩
theorem exc_kit {od : Option Obj} (E : ExcG X.K C) : PySem.W.KitX X.K (.ref a) (.ref C) (fun h => PySem.W.InstAt h a oe C od) := PySem.W.kitx_exc E.cl E.ga E.gg E.exC E.ca E.cn E.ct E.cm
/-! ### over data -/
theorem fld_at {K : KW} {F : Hp} {f : Str} {g : D} : ∀ {gs : List (Str × V)} {ns : List Str} {fs : List D}, gs.map (·.1) = ns → DvL K F (gs.map (·.2)) fs → (ns.zip fs).lookup f = some g → ∃ v, gs.lookup f = some v ∧ Dv K F v g
  | [], _, _, e, h, q => by subst e; cases q
  | (x, v) :: gs, _, _, e, .cons h t, q => by
    subst e
    rw [List.map_cons, List.zip_cons_cons, List.lookup_cons] at q
    rw [List.lookup_cons]
    dsimp only at q ⊢
    cases z : f == x with
    | true => rw [z] at q; cases q; exact ⟨v, rfl, h⟩
    | false => rw [z] at q; exact fld_at rfl t q
end
end A

/-! ## what the head tells of exceptions' classes -/
namespace A
open PySem PySem.Spec L2 PyProof.Rows He
local macro_rules | `(tactic| walk_at "A.go") => `(tactic| simp only [aSeq, aNext, aSet, aVar, atV_s, onB_b, onI_i, onII_i, onL1_i, onL2_i, it_l, it_t, it_s, it_x, ix_l, ix_t, ix_s, add_i, add_x, eq_i, eq_x, eq_b, is_b, aC, aNil, aCons, aOp, aUn, aTup, aLst, aCB, aNot, aAnd, aOr, aTst, aIfE, aAndV, aOrV, aNotV, aChn, aDrop, aRet, aRetN, aIf, agName, agNil, agCons, agTup, aAsg, aPar, aAug, aFor, aRng1, aRng2, aIter, aLc, aYes,
  aCl, aMt, aMk, aFl, aFst, aNeg, aI2, aI20, aLe, aLt, aGt, aGe, aSub, aMod, aMul, aFdv, aPow, aXor, aShl, aShr, agSub, aoN, aoS, aSl, aRev, aLen, aList, aTupOf, aLRg1, aLRg2, aAbs, aI2N, aMax, aMin, aDm, aAll, aAny, aBM, aApp, aPopAt, aPop, aClear, aRevM, aExt, aRepr, aClD, aLnSt, aIAdd, aBreak, aCont,
  aEnd, startA, List.map_cons, List.map_nil, List.cons_append, List.nil_append, List.length_cons, List.length_nil, List.replicate, List.getElem?_cons_zero, List.getElem?_cons_succ, List.set_cons_zero, List.set_cons_succ, Nat.reduceAdd, Nat.reduceSub, Nat.succ_eq_add_one, Int.reduceAdd, Int.reduceMul,
  reduceIte, Bool.false_eq_true, Bool.not_true, Bool.not_false, ite_true, ite_false])
abbrev bmVE : List Value := [.type "ValueError", .type "Exception", .type "BaseException", .type "object"]
abbrev bmLE : List Value := [.type "LookupError", .type "Exception", .type "BaseException", .type "object"]
abbrev bmRE : List Value := [.type "RuntimeError", .type "Exception", .type "BaseException", .type "object"]
abbrev bmAE : List Value := [.type "ArithmeticError", .type "Exception", .type "BaseException", .type "object"]
/-- such a class, its __init__ the def at p, its fields no attributes of the class -/
def kOex (x : Str) (bmB : List Value) (newId : String) (p : DAt) (fs : List Str) : Chk := fun K => PySem.W.excInitIn K (ga K x) bmB newId && (PySem.W.excOver K (ga K x) bmB && (PySem.W.hasDictIn K (ga K x) &&
  (eqO (PySem.W.findIn K (.ref (ga K x)) "__setattr__") (some (some (.builtin "object.__setattr__"))) && (decide (PySem.W.subIn K (.ref (ga K x)) (.type "BaseException") = some true) && (decide (PySem.W.typeIn K (.ref (ga K x)) = some (.type "type")) &&
  (PySem.W.keepIn K (.ref (ga K x)) && (eqO (PySem.W.findIn K (.ref (ga K x)) "__init__") (some (some (.ref (fAd K p)))) && (decide (PySem.W.typeIn K (.ref (fAd K p)) = some (.type "function")) && fs.all fun f => decide (PySem.W.takerIn K (ga K x) f = some none)))))))))
theorem oex_ok {K : PySem.W.Frag} {x : Str} {bmB : List Value} {newId : String} {p : DAt} {fs : List Str} (c : kOex x bmB newId p fs K = true) :
    OexG K (ga K x) bmB newId ∧ PySem.W.findIn K (.ref (ga K x)) "__init__" = some (some (.ref (fAd K p))) ∧ PySem.W.typeIn K (.ref (fAd K p)) = some (.type "function") ∧ ∀ f ∈ fs, PySem.W.takerIn K (ga K x) f = some none := by
  obtain ⟨c1, c⟩ := ba c
  obtain ⟨c2, c⟩ := ba c
  obtain ⟨c3, c⟩ := ba c
  obtain ⟨c4, c⟩ := ba c
  obtain ⟨c5, c⟩ := ba c
  obtain ⟨c6, c⟩ := ba c
  obtain ⟨c7, c⟩ := ba c
  obtain ⟨c8, c⟩ := ba c
  obtain ⟨c9, c10⟩ := ba c
  exact ⟨⟨c1, c2, c3, eqO_ok c4, of_decide_eq_true c5, of_decide_eq_true c6, c7⟩, eqO_ok c8, of_decide_eq_true c9, fun f hf => of_decide_eq_true (List.all_eq_true.mp c10 f hf)⟩
/-- a class that has no __init__ of its own -/
def kExb (x : Str) (bmB : List Value) (newId : String) : Chk := fun K => PySem.W.excIn K (ga K x) bmB newId && (PySem.W.keepIn K (.ref (ga K x)) && (decide (PySem.W.subIn K (.ref (ga K x)) (.type "BaseException") = some true) && decide (PySem.W.typeIn K (.ref (ga K x)) = some (.type "type"))))
theorem exb_ok {K : PySem.W.Frag} {x : Str} {bmB : List Value} {newId : String} (c : kExb x bmB newId K = true) : PySem.W.excIn K (ga K x) bmB newId = true ∧ PySem.W.keepIn K (.ref (ga K x)) = true ∧ PySem.W.subIn K (.ref (ga K x)) (.type "BaseException") = some true ∧ PySem.W.typeIn K (.ref (ga K x)) = some (.type "type") := by
  obtain ⟨c1, c⟩ := ba c
  obtain ⟨c2, c⟩ := ba c
  obtain ⟨c3, c4⟩ := ba c
  exact ⟨c1, c2, of_decide_eq_true c3, of_decide_eq_true c4⟩
/-- a built-in class's __init__ -/
def kBty (B initId : String) : Chk := fun K => decide (valOf (PySem.W.findCls K (.type B) (.type "type") "__init__") = some (.builtin initId))
theorem valOf_ok {r : Option PySem.W.CFound} {v : Value} (e : valOf r = some v) : r = some (.val v) := by
  unfold valOf at e
  split at e
  · cases e; rfl
  · cases e
theorem bty_ok {K : PySem.W.Frag} {B initId : String} (c : kBty B initId K = true) : PySem.W.findCls K (.type B) (.type "type") "__init__" = some (.val (.builtin initId)) := valOf_ok (of_decide_eq_true c)
/-- .. read from a class of the module -/
def kBcl (x : Str) (initId : String) : Chk := fun K => PySem.W.readsIn K (ga K x) (.type "type") && (eqO (PySem.W.specialIn K (.ref (ga K x)) "__getattribute__") (some (some (.builtin "type.__getattribute__"))) &&
  decide (valOf (PySem.W.findCls K (.ref (ga K x)) (.type "type") "__init__") = some (.builtin initId)))
theorem bcl_ok {K : PySem.W.Frag} {x : Str} {initId : String} (c : kBcl x initId K = true) : ClX.CRead K (ga K x) (.type "type") ∧ PySem.W.findCls K (.ref (ga K x)) (.type "type") "__init__" = some (.val (.builtin initId)) := by
  obtain ⟨c1, c⟩ := ba c
  obtain ⟨c2, c3⟩ := ba c
  exact ⟨⟨c1, eqO_ok c2⟩, valOf_ok (of_decide_eq_true c3)⟩
/-- exceptions that are asked by isinstance, or for a field -/
def okX (l : List Str) (K : PySem.W.Frag) (C : Addr) : Prop := ∃ x ∈ l, C = ga K x
def excB (K : PySem.W.Frag) (C : Addr) : Bool := (PySem.W.clsIn K C).isSome && (eqO (PySem.W.findIn K (.ref C) "__getattribute__") (some (some (.builtin "BaseException.__getattribute__"))) && (eqO (PySem.W.findIn K (.ref C) "__getattr__") (some none) &&
  (decide (PySem.W.subIn K (.ref C) (.type "BaseException") = some true) && (PySem.W.hasDictIn K C && (eqO (PySem.W.findIn K (.ref C) "__class__") (some (some (.builtin "object.__class__"))) && (eqO (PySem.W.specialIn K (.builtin "object.__class__") "__get__") (some (some (.builtin "getset_descriptor.__get__"))) &&
  (decide (PySem.W.takesIn K (.builtin "object.__class__") = some true) && decide (PySem.W.mroIn K C (.type "object") = some true))))))))
def kExcs (l : List Str) : Chk := fun K => l.all fun x => excB K (ga K x)
def kNoFs (l fs : List Str) : Chk := fun K => l.all fun x => fs.all fun f => eqO (PySem.W.findIn K (.ref (ga K x)) f) (some none)
theorem excs_ok {K : PySem.W.Frag} {l : List Str} (c : kExcs l K = true) : ∀ C, okX l K C → ExcG K C := by
  rintro C ⟨x, hx, rfl⟩
  have c := List.all_eq_true.mp c x hx
  unfold excB at c
  obtain ⟨c1, c⟩ := ba c
  obtain ⟨c2, c⟩ := ba c
  obtain ⟨c3, c⟩ := ba c
  obtain ⟨c4, c⟩ := ba c
  obtain ⟨c5, c⟩ := ba c
  obtain ⟨c6, c⟩ := ba c
  obtain ⟨c7, c⟩ := ba c
  obtain ⟨c8, c9⟩ := ba c
  exact ⟨c1, eqO_ok c2, eqO_ok c3, of_decide_eq_true c4, c5, eqO_ok c6, eqO_ok c7, of_decide_eq_true c8, of_decide_eq_true c9⟩
theorem exfs_ok {K : PySem.W.Frag} {l fs : List Str} {f : Str} (c : kExcs l K = true) (n : kNoFs l fs K = true) (hf : f ∈ fs) : ∀ C, okX l K C → ExcG K C ∧ PySem.W.findIn K (.ref C) f = some none := by
  intro C h
  refine ⟨excs_ok c C h, ?_⟩
  obtain ⟨x, hx, rfl⟩ := h
  exact eqO_ok (List.all_eq_true.mp (List.all_eq_true.mp n x hx) f hf)
section
variable {X : Cx} {W : WX} {k : Nat} {C : Addr}
/-- the __init__ of an exception's class: the base's, then its fields; one field -/
theorem exi1 {P : Program} {w : World} {K : PySem.W.Frag} {mg : Str → Option Value} {base : Heap} {x qual : Str} {params : Arguments} {body : List Stmt} {scope : Scope} {f : Addr} {fd : FuncData} {N : List Str} {bmB : List Value} {newId : String} {f1 n1 n0 : Str} {m : Str}
    (F : FunD K x qual params body scope [] [] f fd) (S : FnScope N [n0, n1] scope) (T : OexG K C bmB newId) (t1 : PySem.W.takerIn K C f1 = some none)
    (hb : ∀ (cdv : Value) (A : Around) (outer : List Env) (s : Shared) (H : Hp) (E : XK), PSs (cxOf (XT P w) P w K mg base N qual scope f cdv A outer s H E) body (tSeq (tDrop (tBaseI K bmB newId (tCons (tVar 0) (tCons (tC (.str m)) tNil)))) (tFldG K bmB newId f1 (tVar 0) (tVar 1)))) :
    FnG P w K mg base (k + 1) f fd [n0, n1] (spExi C [f1]) := by
  refine fnG_of F S ?_ ?_
  · rintro vs H Q E ⟨a, ys, rfl, hl, _⟩
    rw [List.length_cons, hl]
    rfl
  · rintro cdv A outer s H vs Q E hr ⟨a, ys, rfl, hl, ha, q⟩
    obtain ⟨y, rfl⟩ : ∃ y, ys = [y] := by
      cases ys with
      | nil => cases hl
      | cons y r => cases r with
        | nil => exact ⟨y, rfl⟩
        | cons => cases hl
    refine ⟨_, hb cdv A outer s H E, ?_⟩
    have l0 : (L2.start N [V.ref a, y])[0]? = some (some (V.ref a)) := rfl
    have l1 : (L2.start N [V.ref a, y])[1]? = some (some y) := rfl
    exact ⟨_, l0, a, C, [V.str m], rfl, by show (1 : Nat) ≤ 1000; decide, T, ha, y, l1, _, l0, a, C, rfl, T, t1, .inl ⟨ha, fun dx H' n ch => q dx H' n ch⟩⟩
/-- two fields -/
theorem exi2 {P : Program} {w : World} {K : PySem.W.Frag} {mg : Str → Option Value} {base : Heap} {x qual : Str} {params : Arguments} {body : List Stmt} {scope : Scope} {f : Addr} {fd : FuncData} {N : List Str} {bmB : List Value} {newId : String} {f1 f2 n1 n2 n0 : Str} {m : Str}
    (F : FunD K x qual params body scope [] [] f fd) (S : FnScope N [n0, n1, n2] scope) (T : OexG K C bmB newId) (t1 : PySem.W.takerIn K C f1 = some none) (t2 : PySem.W.takerIn K C f2 = some none)
    (hb : ∀ (cdv : Value) (A : Around) (outer : List Env) (s : Shared) (H : Hp) (E : XK), PSs (cxOf (XT P w) P w K mg base N qual scope f cdv A outer s H E) body (tSeq (tDrop (tBaseI K bmB newId (tCons (tVar 0) (tCons (tC (.str m)) tNil)))) (tSeq (tFldG K bmB newId f1 (tVar 0) (tVar 1)) (tFldG K bmB newId f2 (tVar 0) (tVar 2))))) :
    FnG P w K mg base (k + 1) f fd [n0, n1, n2] (spExi C [f1, f2]) := by
  refine fnG_of F S ?_ ?_
  · rintro vs H Q E ⟨a, ys, rfl, hl, _⟩
    rw [List.length_cons, hl]
    rfl
  · rintro cdv A outer s H vs Q E hr ⟨a, ys, rfl, hl, ha, q⟩
    obtain ⟨y, z, rfl⟩ : ∃ y z, ys = [y, z] := by
      match ys, hl with
      | [y, z], _ => exact ⟨y, z, rfl⟩
    refine ⟨_, hb cdv A outer s H E, ?_⟩
    have l0 : (L2.start N [V.ref a, y, z])[0]? = some (some (V.ref a)) := rfl
    have l1 : (L2.start N [V.ref a, y, z])[1]? = some (some y) := rfl
    have l2 : (L2.start N [V.ref a, y, z])[2]? = some (some z) := rfl
    refine ⟨_, l0, a, C, [V.str m], rfl, by show (1 : Nat) ≤ 1000; decide, T, ha, y, l1, _, l0, a, C, rfl, T, t1, .inl ⟨ha, fun dx H' n ch => ?_⟩⟩
    refine ⟨z, l2, _, l0, a, C, rfl, T, t2, .inr ⟨dx, _, ch.1, ch.2.1, by show (1 : Nat) ≤ 900; decide, fun H2 ch2 => ?_⟩⟩
    exact q dx H2 n ⟨ch2.1, ch2.2.1, ch2.2.2.1, fun b b1 b2 => (ch2.2.2.2 b b1 b2).trans (ch.2.2.2 b b1 b2)⟩
end
end A

/-! ## tuple(range(n)) -/
namespace A
open PySem PySem.Spec L2 PyProof.Rows
local macro_rules | `(tactic| walk_at "A.go") => `(tactic| simp only [aSeq, aNext, aSet, aVar, atV_s, onB_b, onI_i, onII_i, onL1_i, onL2_i, it_l, it_t, it_s, it_x, ix_l, ix_t, ix_s, add_i, add_x, eq_i, eq_x, eq_b, is_b, aC, aNil, aCons, aOp, aUn, aTup, aLst, aCB, aNot, aAnd, aOr, aTst, aIfE, aAndV, aOrV, aNotV, aChn, aDrop, aRet, aRetN, aIf, agName, agNil, agCons, agTup, aAsg, aPar, aAug, aFor, aRng1, aRng2, aIter, aLc, aYes,
  aCl, aMt, aMk, aFl, aFst, aNeg, aI2, aI20, aLe, aLt, aGt, aGe, aSub, aMod, aMul, aFdv, aPow, aXor, aShl, aShr, agSub, aoN, aoS, aSl, aRev, aLen, aList, aTupOf, aLRg1, aLRg2, aAbs, aI2N, aMax, aMin, aDm, aAll, aAny, aBM, aApp, aPopAt, aPop, aClear, aRevM, aExt, aRepr, aClD, aLnSt, aIAdd, aBreak, aCont,
  aEnd, startA, List.map_cons, List.map_nil, List.cons_append, List.nil_append, List.length_cons, List.length_nil, List.replicate, List.getElem?_cons_zero, List.getElem?_cons_succ, List.set_cons_zero, List.set_cons_succ, Nat.reduceAdd, Nat.reduceSub, Nat.succ_eq_add_one, Int.reduceAdd, Int.reduceMul,
  reduceIte, Bool.false_eq_true, Bool.not_true, Bool.not_false, ite_true, ite_false])
section
variable {X : Cx} {W : WX} {a : Expr} {ta : TE} {aa : AE} {p pos : Pos}
end
end A

/-! ## calls with keywords, or where the last ones lack -/
namespace A
open PySem PySem.Spec L2 PyProof.Rows
local macro_rules | `(tactic| walk_at "A.go") => `(tactic| simp only [aSeq, aNext, aSet, aVar, atV_s, onB_b, onI_i, onII_i, onL1_i, onL2_i, it_l, it_t, it_s, it_x, ix_l, ix_t, ix_s, add_i, add_x, eq_i, eq_x, eq_b, is_b, aC, aNil, aCons, aOp, aUn, aTup, aLst, aCB, aNot, aAnd, aOr, aTst, aIfE, aAndV, aOrV, aNotV, aChn, aDrop, aRet, aRetN, aIf, agName, agNil, agCons, agTup, aAsg, aPar, aAug, aFor, aRng1, aRng2, aIter, aLc, aYes,
  aCl, aMt, aMk, aFl, aFst, aNeg, aI2, aI20, aLe, aLt, aGt, aGe, aSub, aMod, aMul, aFdv, aPow, aXor, aShl, aShr, agSub, aoN, aoS, aSl, aRev, aLen, aList, aTupOf, aLRg1, aLRg2, aAbs, aI2N, aMax, aMin, aDm, aAll, aAny, aBM, aApp, aPopAt, aPop, aClear, aRevM, aExt, aRepr, aClD, aLnSt, aIAdd, aBreak, aCont,
  aEnd, startA, List.map_cons, List.map_nil, List.cons_append, List.nil_append, List.length_cons, List.length_nil, List.replicate, List.getElem?_cons_zero, List.getElem?_cons_succ, List.set_cons_zero, List.set_cons_succ, Nat.reduceAdd, Nat.reduceSub, Nat.succ_eq_add_one, Int.reduceAdd, Int.reduceMul,
  reduceIte, Bool.false_eq_true, Bool.not_true, Bool.not_false, ite_true, ite_false])
/-- the values in the parameters' order -/
def pick {α : Type} (ix : List Nat) (l : List α) : List α := ix.filterMap fun i => l[i]?
theorem pick_vals {ix : List Nat} {vs : List V} {us : List Value} (h : Vals vs us) : Vals (pick ix vs) (pick ix us) := by
  have get : ∀ {vs : List V} {us : List Value}, Vals vs us → ∀ i : Nat, (vs[i]? = none ∧ us[i]? = none) ∨ ∃ v u, vs[i]? = some v ∧ us[i]? = some u ∧ RelV v u := by
    intro vs us h
    induction h with
    | nil => intro i; exact .inl ⟨by simp, by simp⟩
    | cons h t ih =>
      intro i
      cases i with
      | zero => exact .inr ⟨_, _, rfl, rfl, h⟩
      | succ i => simpa using ih i
  induction ix with
  | nil => exact .nil
  | cons i ix ih =>
    unfold pick at ih ⊢
    rw [List.filterMap_cons, List.filterMap_cons]
    rcases get h i with ⟨a, b⟩ | ⟨v, u, a, b, r⟩
    · rw [a, b]; exact ih
    · rw [a, b]; exact .cons r ih
theorem pick_dv {K : KW} {F : Hp} {ix : List Nat} {vs : List V} {ds : List D} (h : DvL K F vs ds) : DvL K F (pick ix vs) (pick ix ds) := by
  induction ix with
  | nil => exact .nil
  | cons i ix ih =>
    unfold pick at ih ⊢
    rw [List.filterMap_cons, List.filterMap_cons]
    cases e : vs[i]? with
    | none =>
      have : ds[i]? = none := by
        rw [List.getElem?_eq_none_iff] at e ⊢
        have := h.len
        omega
      rw [this]
      exact ih
    | some v =>
      obtain ⟨d, h1, h2⟩ := h.get e
      rw [h1]
      exact .cons h2 ih
/-- the module's name x is a def that keeps sp: n values by place, keywords ks, those that lack are dvs -/
structure GFk (P : Program) (w : World) (K : PySem.W.Frag) (mg : Str → Option Value) (base : Heap) (x : Str) (k : Nat) (ps : List Str) (n : Nat) (ks : List Str) (dvs : List D) (ix : List Nat) (sp : SpA) : Prop where
  ex : ∃ f fd vs us, mg x = some (.ref f) ∧ PySem.W.keepIn K (.ref f) = true ∧ Vals vs us ∧ (∀ F, DvL ⟨K, w⟩ F vs dvs) ∧
    (∀ (s : Shared) (as ws : List Value), K.In s.heap → as.length = n → ws.length = ks.length → BindsTo s fd ⟨as, ks.zip ws⟩ (ps.zip (pick ix (as ++ (us ++ ws))))) ∧ FnA P w K mg base k f fd ps sp
section
variable {X : Cx} {W : WX} {k n : Nat} {ps ks : List Str} {sp : SpA} {dvs : List D} {ix : List Nat} {x nm : Str} {p pos kpos : Pos} {e : Expr} {es : List Expr} {kws : List Keyword} {te : TE} {t tk : TA} {ae : AE} {ar kr : AA}
structure KwA (X : Cx) (W : WX) (kws : List Keyword) (t : TA) (a : AA) : Prop where
  pk : PK X kws t
  ra : RA X.kw W t a
theorem kw_nil : KwA X W [] tNil aNil := ⟨pk_nil, (ar_nil (X := X)).ra⟩
theorem kw_cons (ha : EA X W e te ae) (hr : KwA X W kws tk kr) : KwA X W (⟨nm, e, kpos⟩ :: kws) (tCons te tk) (aCons ae kr) :=
  ⟨pk_cons ha.pe hr.pk, fun σ H F S R ρ Q E P T en wo h po => ha.re σ H F S R ρ _ E _ T en wo h fun v H1 F1 S1 d e1 T1 dv q =>
    hr.ra σ H1 F1 S1 R ρ _ E _ T1 (en.mono e1) (wo.mono e1) q fun vs H2 F2 S2 ds e2 T2 dvs q2 => po (v :: vs) H2 F2 S2 (d :: ds) (e1.trans e2) T2 (.cons (dv.mono e2) dvs) q2⟩
end
/-- no defaults: keywords alone put otherwise -/
theorem binds_kw {K : PySem.W.Frag} {x qual : Str} {params : Arguments} {body : List Stmt} {scope : Scope} {f : Addr} {fd : FuncData} {ps ks : List Str} {n : Nat} {ix : List Nat} (F : FunD K x qual params body scope [] [] f fd)
    (h : ∀ (kV doc pm : Value) (an : Option Addr) (cdv ct : Value) (us ws : List Value), us.length = n → ws.length = ks.length → bindArgs (PySem.W.fnOf x qual params body scope .none kV doc pm an cdv ct) ⟨us, ks.zip ws⟩ = pure (ps.zip (pick ix (us ++ ([] ++ ws))))) :
    ∀ (s : Shared) (as ws : List Value), K.In s.heap → as.length = n → ws.length = ks.length → BindsTo s fd ⟨as, ks.zip ws⟩ (ps.zip (pick ix (as ++ ([] ++ ws)))) := by
  obtain ⟨oc, od, dV, kV, doc, pm, an, cdv, ct, osl, rfl, lk, hcd, hD, hK⟩ := F.ex
  rcases hD with ⟨_, rfl⟩ | ⟨e, _⟩
  · exact fun s as ws X l1 l2 => .of_eq (h kV doc pm an cdv ct as ws l1 l2)
  · exact absurd rfl e
end A

/-! ## i & j -/
namespace A
open PySem PySem.Spec L2 PyProof.Rows
local macro_rules | `(tactic| walk_at "A.go") => `(tactic| simp only [aSeq, aNext, aSet, aVar, atV_s, onB_b, onI_i, onII_i, onL1_i, onL2_i, it_l, it_t, it_s, it_x, ix_l, ix_t, ix_s, add_i, add_x, eq_i, eq_x, eq_b, is_b, aC, aNil, aCons, aOp, aUn, aTup, aLst, aCB, aNot, aAnd, aOr, aTst, aIfE, aAndV, aOrV, aNotV, aChn, aDrop, aRet, aRetN, aIf, agName, agNil, agCons, agTup, aAsg, aPar, aAug, aFor, aRng1, aRng2, aIter, aLc, aYes,
  aCl, aMt, aMk, aFl, aFst, aNeg, aI2, aI20, aLe, aLt, aGt, aGe, aSub, aMod, aMul, aFdv, aPow, aXor, aShl, aShr, agSub, aoN, aoS, aSl, aRev, aLen, aList, aTupOf, aLRg1, aLRg2, aAbs, aI2N, aMax, aMin, aDm, aAll, aAny, aBM, aApp, aPopAt, aPop, aClear, aRevM, aExt, aRepr, aClD, aLnSt, aIAdd, aBreak, aCont,
  aEnd, startA, List.map_cons, List.map_nil, List.cons_append, List.nil_append, List.length_cons, List.length_nil, List.replicate, List.getElem?_cons_zero, List.getElem?_cons_succ, List.set_cons_zero, List.set_cons_succ, Nat.reduceAdd, Nat.reduceSub, Nat.succ_eq_add_one, Int.reduceAdd, Int.reduceMul,
  reduceIte, Bool.false_eq_true, Bool.not_true, Bool.not_false, ite_true, ite_false])
variable {X : Cx}
end A

/-! ## max(xs), min(xs) of ints -/
namespace A
open PySem PySem.Spec L2 PyProof.Rows
local macro_rules | `(tactic| walk_at "A.go") => `(tactic| simp only [aSeq, aNext, aSet, aVar, atV_s, onB_b, onI_i, onII_i, onL1_i, onL2_i, it_l, it_t, it_s, it_x, ix_l, ix_t, ix_s, add_i, add_x, eq_i, eq_x, eq_b, is_b, aC, aNil, aCons, aOp, aUn, aTup, aLst, aCB, aNot, aAnd, aOr, aTst, aIfE, aAndV, aOrV, aNotV, aChn, aDrop, aRet, aRetN, aIf, agName, agNil, agCons, agTup, aAsg, aPar, aAug, aFor, aRng1, aRng2, aIter, aLc, aYes,
  aCl, aMt, aMk, aFl, aFst, aNeg, aI2, aI20, aLe, aLt, aGt, aGe, aSub, aMod, aMul, aFdv, aPow, aXor, aShl, aShr, agSub, aoN, aoS, aSl, aRev, aLen, aList, aTupOf, aLRg1, aLRg2, aAbs, aI2N, aMax, aMin, aDm, aAll, aAny, aBM, aApp, aPopAt, aPop, aClear, aRevM, aExt, aRepr, aClD, aLnSt, aIAdd, aBreak, aCont,
  aEnd, startA, List.map_cons, List.map_nil, List.cons_append, List.nil_append, List.length_cons, List.length_nil, List.replicate, List.getElem?_cons_zero, List.getElem?_cons_succ, List.set_cons_zero, List.set_cons_succ, Nat.reduceAdd, Nat.reduceSub, Nat.succ_eq_add_one, Int.reduceAdd, Int.reduceMul,
  reduceIte, Bool.false_eq_true, Bool.not_true, Bool.not_false, ite_true, ite_false])
section
variable {X : Cx}
end
end A

/-! ## for x in reversed(xs) -/
namespace A
open PySem PySem.Spec L2 PyProof.Rows
local macro_rules | `(tactic| walk_at "A.go") => `(tactic| simp only [aSeq, aNext, aSet, aVar, atV_s, onB_b, onI_i, onII_i, onL1_i, onL2_i, it_l, it_t, it_s, it_x, ix_l, ix_t, ix_s, add_i, add_x, eq_i, eq_x, eq_b, is_b, aC, aNil, aCons, aOp, aUn, aTup, aLst, aCB, aNot, aAnd, aOr, aTst, aIfE, aAndV, aOrV, aNotV, aChn, aDrop, aRet, aRetN, aIf, agName, agNil, agCons, agTup, aAsg, aPar, aAug, aFor, aRng1, aRng2, aIter, aLc, aYes,
  aCl, aMt, aMk, aFl, aFst, aNeg, aI2, aI20, aLe, aLt, aGt, aGe, aSub, aMod, aMul, aFdv, aPow, aXor, aShl, aShr, agSub, aoN, aoS, aSl, aRev, aLen, aList, aTupOf, aLRg1, aLRg2, aAbs, aI2N, aMax, aMin, aDm, aAll, aAny, aBM, aApp, aPopAt, aPop, aClear, aRevM, aExt, aRepr, aClD, aLnSt, aIAdd, aBreak, aCont,
  aEnd, startA, List.map_cons, List.map_nil, List.cons_append, List.nil_append, List.length_cons, List.length_nil, List.replicate, List.getElem?_cons_zero, List.getElem?_cons_succ, List.set_cons_zero, List.set_cons_succ, Nat.reduceAdd, Nat.reduceSub, Nat.succ_eq_add_one, Int.reduceAdd, Int.reduceMul,
  reduceIte, Bool.false_eq_true, Bool.not_true, Bool.not_false, ite_true, ite_false])
section
variable {X : Cx} {W : WX} {e tg : Expr} {t : TA} {ar : AA} {p pos : Pos}
end
end A

/-! ## xs.insert(i, x) -/
namespace A
open PySem PySem.Spec L2 PyProof.Rows
local macro_rules | `(tactic| walk_at "A.go") => `(tactic| simp only [aSeq, aNext, aSet, aVar, atV_s, onB_b, onI_i, onII_i, onL1_i, onL2_i, it_l, it_t, it_s, it_x, ix_l, ix_t, ix_s, add_i, add_x, eq_i, eq_x, eq_b, is_b, aC, aNil, aCons, aOp, aUn, aTup, aLst, aCB, aNot, aAnd, aOr, aTst, aIfE, aAndV, aOrV, aNotV, aChn, aDrop, aRet, aRetN, aIf, agName, agNil, agCons, agTup, aAsg, aPar, aAug, aFor, aRng1, aRng2, aIter, aLc, aYes,
  aCl, aMt, aMk, aFl, aFst, aNeg, aI2, aI20, aLe, aLt, aGt, aGe, aSub, aMod, aMul, aFdv, aPow, aXor, aShl, aShr, agSub, aoN, aoS, aSl, aRev, aLen, aList, aTupOf, aLRg1, aLRg2, aAbs, aI2N, aMax, aMin, aDm, aAll, aAny, aBM, aApp, aPopAt, aPop, aClear, aRevM, aExt, aRepr, aClD, aLnSt, aIAdd, aBreak, aCont,
  aEnd, startA, List.map_cons, List.map_nil, List.cons_append, List.nil_append, List.length_cons, List.length_nil, List.replicate, List.getElem?_cons_zero, List.getElem?_cons_succ, List.set_cons_zero, List.set_cons_succ, Nat.reduceAdd, Nat.reduceSub, Nat.succ_eq_add_one, Int.reduceAdd, Int.reduceMul,
  reduceIte, Bool.false_eq_true, Bool.not_true, Bool.not_false, ite_true, ite_false])
section
variable {X : Cx}
end
end A

/-! ## {k: v, ..} -/
namespace A
open PySem PySem.Spec L2 PyProof.Rows
local macro_rules | `(tactic| walk_at "A.go") => `(tactic| simp only [aSeq, aNext, aSet, aVar, atV_s, onB_b, onI_i, onII_i, onL1_i, onL2_i, it_l, it_t, it_s, it_x, ix_l, ix_t, ix_s, add_i, add_x, eq_i, eq_x, eq_b, is_b, aC, aNil, aCons, aOp, aUn, aTup, aLst, aCB, aNot, aAnd, aOr, aTst, aIfE, aAndV, aOrV, aNotV, aChn, aDrop, aRet, aRetN, aIf, agName, agNil, agCons, agTup, aAsg, aPar, aAug, aFor, aRng1, aRng2, aIter, aLc, aYes,
  aCl, aMt, aMk, aFl, aFst, aNeg, aI2, aI20, aLe, aLt, aGt, aGe, aSub, aMod, aMul, aFdv, aPow, aXor, aShl, aShr, agSub, aoN, aoS, aSl, aRev, aLen, aList, aTupOf, aLRg1, aLRg2, aAbs, aI2N, aMax, aMin, aDm, aAll, aAny, aBM, aApp, aPopAt, aPop, aClear, aRevM, aExt, aRepr, aClD, aLnSt, aIAdd, aBreak, aCont,
  aEnd, startA, List.map_cons, List.map_nil, List.cons_append, List.nil_append, List.length_cons, List.length_nil, List.replicate, List.getElem?_cons_zero, List.getElem?_cons_succ, List.set_cons_zero, List.set_cons_succ, Nat.reduceAdd, Nat.reduceSub, Nat.succ_eq_add_one, Int.reduceAdd, Int.reduceMul,
  reduceIte, Bool.false_eq_true, Bool.not_true, Bool.not_false, ite_true, ite_false])
def DvV (K : KW) (F : Hp) : List (V × V) → List (D × D) → Prop := Paired fun p q => Dv K F p.1 q.1 ∧ Dv K F p.2 q.2
theorem DvV.mono {K : KW} {F F' : Hp} (e : Same F F') : ∀ {vs : List (V × V)} {ds : List (D × D)}, DvV K F vs ds → DvV K F' vs ds
  | _, _, .nil => .nil
  | _, _, .cons h t => .cons ⟨h.1.mono e, h.2.mono e⟩ (DvV.mono e t)
section
variable {X : Cx} {W : WX} {pos : Pos} {k v : Expr} {ks : List (Option Expr)} {vs : List Expr} {tk tv : TE} {ak av : AE} {ts : List (TE × TE)} {as : List (AE × AE)}
end
end A

/-! ## a, b, c = x, y, z -/
namespace A
open PySem PySem.Spec L2 PyProof.Rows
local macro_rules | `(tactic| walk_at "A.go") => `(tactic| simp only [aSeq, aNext, aSet, aVar, atV_s, onB_b, onI_i, onII_i, onL1_i, onL2_i, it_l, it_t, it_s, it_x, ix_l, ix_t, ix_s, add_i, add_x, eq_i, eq_x, eq_b, is_b, aC, aNil, aCons, aOp, aUn, aTup, aLst, aCB, aNot, aAnd, aOr, aTst, aIfE, aAndV, aOrV, aNotV, aChn, aDrop, aRet, aRetN, aIf, agName, agNil, agCons, agTup, aAsg, aPar, aAug, aFor, aRng1, aRng2, aIter, aLc, aYes,
  aCl, aMt, aMk, aFl, aFst, aNeg, aI2, aI20, aLe, aLt, aGt, aGe, aSub, aMod, aMul, aFdv, aPow, aXor, aShl, aShr, agSub, aoN, aoS, aSl, aRev, aLen, aList, aTupOf, aLRg1, aLRg2, aAbs, aI2N, aMax, aMin, aDm, aAll, aAny, aBM, aApp, aPopAt, aPop, aClear, aRevM, aExt, aRepr, aClD, aLnSt, aIAdd, aBreak, aCont,
  aEnd, startA, List.map_cons, List.map_nil, List.cons_append, List.nil_append, List.length_cons, List.length_nil, List.replicate, List.getElem?_cons_zero, List.getElem?_cons_succ, List.set_cons_zero, List.set_cons_succ, Nat.reduceAdd, Nat.reduceSub, Nat.succ_eq_add_one, Int.reduceAdd, Int.reduceMul,
  reduceIte, Bool.false_eq_true, Bool.not_true, Bool.not_false, ite_true, ite_false])
section
variable {X : Cx} {W : WX} {pos : Pos}
end
end A

/-! ## sorted(xs) of pairs of whole numbers -/
namespace A
open PySem PySem.Spec L2 PyProof.Rows
local macro_rules | `(tactic| walk_at "A.go") => `(tactic| simp only [aSeq, aNext, aSet, aVar, atV_s, onB_b, onI_i, onII_i, onL1_i, onL2_i, it_l, it_t, it_s, it_x, ix_l, ix_t, ix_s, add_i, add_x, eq_i, eq_x, eq_b, is_b, aC, aNil, aCons, aOp, aUn, aTup, aLst, aCB, aNot, aAnd, aOr, aTst, aIfE, aAndV, aOrV, aNotV, aChn, aDrop, aRet, aRetN, aIf, agName, agNil, agCons, agTup, aAsg, aPar, aAug, aFor, aRng1, aRng2, aIter, aLc, aYes,
  aCl, aMt, aMk, aFl, aFst, aNeg, aI2, aI20, aLe, aLt, aGt, aGe, aSub, aMod, aMul, aFdv, aPow, aXor, aShl, aShr, agSub, aoN, aoS, aSl, aRev, aLen, aList, aTupOf, aLRg1, aLRg2, aAbs, aI2N, aMax, aMin, aDm, aAll, aAny, aBM, aApp, aPopAt, aPop, aClear, aRevM, aExt, aRepr, aClD, aLnSt, aIAdd, aBreak, aCont,
  aEnd, startA, List.map_cons, List.map_nil, List.cons_append, List.nil_append, List.length_cons, List.length_nil, List.replicate, List.getElem?_cons_zero, List.getElem?_cons_succ, List.set_cons_zero, List.set_cons_succ, Nat.reduceAdd, Nat.reduceSub, Nat.succ_eq_add_one, Int.reduceAdd, Int.reduceMul,
  reduceIte, Bool.false_eq_true, Bool.not_true, Bool.not_false, ite_true, ite_false])
inductive PrsT (K : PySem.W.Frag) (H : Hp) : List V → List (Int × Int) → Prop
  | nil : PrsT K H [] []
  | cons {t : Addr} {p : Int × Int} {xs : List V} {ps : List (Int × Int)} : SqT K H t [.int p.1, .int p.2] → PrsT K H xs ps → PrsT K H (.ref t :: xs) (p :: ps)
section
variable {X : Cx}
open Classical in
end
end A

/-! ## a comprehension over f(..).items(): the dict that was told is locked for good -/
namespace A
open PySem PySem.Spec L2 PyProof.Rows
local macro_rules | `(tactic| walk_at "A.go") => `(tactic| simp only [aSeq, aNext, aSet, aVar, atV_s, onB_b, onI_i, onII_i, onL1_i, onL2_i, it_l, it_t, it_s, it_x, ix_l, ix_t, ix_s, add_i, add_x, eq_i, eq_x, eq_b, is_b, aC, aNil, aCons, aOp, aUn, aTup, aLst, aCB, aNot, aAnd, aOr, aTst, aIfE, aAndV, aOrV, aNotV, aChn, aDrop, aRet, aRetN, aIf, agName, agNil, agCons, agTup, aAsg, aPar, aAug, aFor, aRng1, aRng2, aIter, aLc, aYes,
  aCl, aMt, aMk, aFl, aFst, aNeg, aI2, aI20, aLe, aLt, aGt, aGe, aSub, aMod, aMul, aFdv, aPow, aXor, aShl, aShr, agSub, aoN, aoS, aSl, aRev, aLen, aList, aTupOf, aLRg1, aLRg2, aAbs, aI2N, aMax, aMin, aDm, aAll, aAny, aBM, aApp, aPopAt, aPop, aClear, aRevM, aExt, aRepr, aClD, aLnSt, aIAdd, aBreak, aCont,
  aEnd, startA, List.map_cons, List.map_nil, List.cons_append, List.nil_append, List.length_cons, List.length_nil, List.replicate, List.getElem?_cons_zero, List.getElem?_cons_succ, List.set_cons_zero, List.set_cons_succ, Nat.reduceAdd, Nat.reduceSub, Nat.succ_eq_add_one, Int.reduceAdd, Int.reduceMul,
  reduceIte, Bool.false_eq_true, Bool.not_true, Bool.not_false, ite_true, ite_false])
section
variable {X : Cx} {W : WX} {elt tg iter : Expr} {ifs : List Expr} {scope : Scope} {own : List (Str × Nat)} {pos : Pos} {wi : TI} {ai : AI} {g : TG} {ag : AG} {tt : TT} {at_ : AT} {te : TE} {ae : AE}
variable {o : Expr} {to : TE} {ao : AE} {apos cpos tpos : Pos} {elts : List Expr} {kk : Nat}
end
end A

/-! ## repr of a list, of which an item may be {} -/
namespace A
open PySem PySem.Spec L2 PyProof.Rows
local macro_rules | `(tactic| walk_at "A.go") => `(tactic| simp only [aSeq, aNext, aSet, aVar, atV_s, onB_b, onI_i, onII_i, onL1_i, onL2_i, it_l, it_t, it_s, it_x, ix_l, ix_t, ix_s, add_i, add_x, eq_i, eq_x, eq_b, is_b, aC, aNil, aCons, aOp, aUn, aTup, aLst, aCB, aNot, aAnd, aOr, aTst, aIfE, aAndV, aOrV, aNotV, aChn, aDrop, aRet, aRetN, aIf, agName, agNil, agCons, agTup, aAsg, aPar, aAug, aFor, aRng1, aRng2, aIter, aLc, aYes,
  aCl, aMt, aMk, aFl, aFst, aNeg, aI2, aI20, aLe, aLt, aGt, aGe, aSub, aMod, aMul, aFdv, aPow, aXor, aShl, aShr, agSub, aoN, aoS, aSl, aRev, aLen, aList, aTupOf, aLRg1, aLRg2, aAbs, aI2N, aMax, aMin, aDm, aAll, aAny, aBM, aApp, aPopAt, aPop, aClear, aRevM, aExt, aRepr, aClD, aLnSt, aIAdd, aBreak, aCont,
  aEnd, startA, List.map_cons, List.map_nil, List.cons_append, List.nil_append, List.length_cons, List.length_nil, List.replicate, List.getElem?_cons_zero, List.getElem?_cons_succ, List.set_cons_zero, List.set_cons_succ, Nat.reduceAdd, Nat.reduceSub, Nat.succ_eq_add_one, Int.reduceAdd, Int.reduceMul,
  reduceIte, Bool.false_eq_true, Bool.not_true, Bool.not_false, ite_true, ite_false])
section
variable {X : Cx} {pins : List (Addr × Obj)} {σ : St} {H : Hp} {s : Shared}
end
section
variable {X : Cx}
end
end A

/-! ## d.get(k, x), d.pop(k) of one's own dict -/
namespace A
open PySem PySem.Spec L2 PyProof.Rows
local macro_rules | `(tactic| walk_at "A.go") => `(tactic| simp only [aSeq, aNext, aSet, aVar, atV_s, onB_b, onI_i, onII_i, onL1_i, onL2_i, it_l, it_t, it_s, it_x, ix_l, ix_t, ix_s, add_i, add_x, eq_i, eq_x, eq_b, is_b, aC, aNil, aCons, aOp, aUn, aTup, aLst, aCB, aNot, aAnd, aOr, aTst, aIfE, aAndV, aOrV, aNotV, aChn, aDrop, aRet, aRetN, aIf, agName, agNil, agCons, agTup, aAsg, aPar, aAug, aFor, aRng1, aRng2, aIter, aLc, aYes,
  aCl, aMt, aMk, aFl, aFst, aNeg, aI2, aI20, aLe, aLt, aGt, aGe, aSub, aMod, aMul, aFdv, aPow, aXor, aShl, aShr, agSub, aoN, aoS, aSl, aRev, aLen, aList, aTupOf, aLRg1, aLRg2, aAbs, aI2N, aMax, aMin, aDm, aAll, aAny, aBM, aApp, aPopAt, aPop, aClear, aRevM, aExt, aRepr, aClD, aLnSt, aIAdd, aBreak, aCont,
  aEnd, startA, List.map_cons, List.map_nil, List.cons_append, List.nil_append, List.length_cons, List.length_nil, List.replicate, List.getElem?_cons_zero, List.getElem?_cons_succ, List.set_cons_zero, List.set_cons_succ, Nat.reduceAdd, Nat.reduceSub, Nat.succ_eq_add_one, Int.reduceAdd, Int.reduceMul,
  reduceIte, Bool.false_eq_true, Bool.not_true, Bool.not_false, ite_true, ite_false])
section
variable {X : Cx} {W : WX} {o i f : Expr} {apos cpos : Pos} {to ti tf : TE} {ao ai af : AE}
end
end A

/-! ## e.f of an exception that is caught, its class told by the reading -/
namespace A
open PySem PySem.Spec L2 PyProof.Rows
local macro_rules | `(tactic| walk_at "A.go") => `(tactic| simp only [aSeq, aNext, aSet, aVar, atV_s, onB_b, onI_i, onII_i, onL1_i, onL2_i, it_l, it_t, it_s, it_x, ix_l, ix_t, ix_s, add_i, add_x, eq_i, eq_x, eq_b, is_b, aC, aNil, aCons, aOp, aUn, aTup, aLst, aCB, aNot, aAnd, aOr, aTst, aIfE, aAndV, aOrV, aNotV, aChn, aDrop, aRet, aRetN, aIf, agName, agNil, agCons, agTup, aAsg, aPar, aAug, aFor, aRng1, aRng2, aIter, aLc, aYes,
  aCl, aMt, aMk, aFl, aFst, aNeg, aI2, aI20, aLe, aLt, aGt, aGe, aSub, aMod, aMul, aFdv, aPow, aXor, aShl, aShr, agSub, aoN, aoS, aSl, aRev, aLen, aList, aTupOf, aLRg1, aLRg2, aAbs, aI2N, aMax, aMin, aDm, aAll, aAny, aBM, aApp, aPopAt, aPop, aClear, aRevM, aExt, aRepr, aClD, aLnSt, aIAdd, aBreak, aCont,
  aEnd, startA, List.map_cons, List.map_nil, List.cons_append, List.nil_append, List.length_cons, List.length_nil, List.replicate, List.getElem?_cons_zero, List.getElem?_cons_succ, List.set_cons_zero, List.set_cons_succ, Nat.reduceAdd, Nat.reduceSub, Nat.succ_eq_add_one, Int.reduceAdd, Int.reduceMul,
  reduceIte, Bool.false_eq_true, Bool.not_true, Bool.not_false, ite_true, ite_false])
section
variable {X : Cx} {oe : Obj} {a : Addr} {d : Option Addr} {C : Addr} {pn : List (Addr × Obj)}
end
end A

/-! ## zip of a tuple and a list -/
namespace A
open PySem PySem.Spec L2 PyProof.Rows
local macro_rules | `(tactic| walk_at "A.go") => `(tactic| simp only [aSeq, aNext, aSet, aVar, atV_s, onB_b, onI_i, onII_i, onL1_i, onL2_i, it_l, it_t, it_s, it_x, ix_l, ix_t, ix_s, add_i, add_x, eq_i, eq_x, eq_b, is_b, aC, aNil, aCons, aOp, aUn, aTup, aLst, aCB, aNot, aAnd, aOr, aTst, aIfE, aAndV, aOrV, aNotV, aChn, aDrop, aRet, aRetN, aIf, agName, agNil, agCons, agTup, aAsg, aPar, aAug, aFor, aRng1, aRng2, aIter, aLc, aYes,
  aCl, aMt, aMk, aFl, aFst, aNeg, aI2, aI20, aLe, aLt, aGt, aGe, aSub, aMod, aMul, aFdv, aPow, aXor, aShl, aShr, agSub, aoN, aoS, aSl, aRev, aLen, aList, aTupOf, aLRg1, aLRg2, aAbs, aI2N, aMax, aMin, aDm, aAll, aAny, aBM, aApp, aPopAt, aPop, aClear, aRevM, aExt, aRepr, aClD, aLnSt, aIAdd, aBreak, aCont,
  aEnd, startA, List.map_cons, List.map_nil, List.cons_append, List.nil_append, List.length_cons, List.length_nil, List.replicate, List.getElem?_cons_zero, List.getElem?_cons_succ, List.set_cons_zero, List.set_cons_succ, Nat.reduceAdd, Nat.reduceSub, Nat.succ_eq_add_one, Int.reduceAdd, Int.reduceMul,
  reduceIte, Bool.false_eq_true, Bool.not_true, Bool.not_false, ite_true, ite_false])
section
variable {X : Cx} {W : WX} {e e2 : Expr} {p pos tpos : Pos} {es : List Expr} {m : Nat}
variable {t : TA} {ar : AA}
end
end A

/-! ## x in range(n); a call of what an expression tells -/
namespace PySem
open Sem (wp)
end PySem
namespace A
open PySem PySem.Spec L2 PyProof.Rows
local macro_rules | `(tactic| walk_at "A.go") => `(tactic| simp only [aSeq, aNext, aSet, aVar, atV_s, onB_b, onI_i, onII_i, onL1_i, onL2_i, it_l, it_t, it_s, it_x, ix_l, ix_t, ix_s, add_i, add_x, eq_i, eq_x, eq_b, is_b, aC, aNil, aCons, aOp, aUn, aTup, aLst, aCB, aNot, aAnd, aOr, aTst, aIfE, aAndV, aOrV, aNotV, aChn, aDrop, aRet, aRetN, aIf, agName, agNil, agCons, agTup, aAsg, aPar, aAug, aFor, aRng1, aRng2, aIter, aLc, aYes,
  aCl, aMt, aMk, aFl, aFst, aNeg, aI2, aI20, aLe, aLt, aGt, aGe, aSub, aMod, aMul, aFdv, aPow, aXor, aShl, aShr, agSub, aoN, aoS, aSl, aRev, aLen, aList, aTupOf, aLRg1, aLRg2, aAbs, aI2N, aMax, aMin, aDm, aAll, aAny, aBM, aApp, aPopAt, aPop, aClear, aRevM, aExt, aRepr, aClD, aLnSt, aIAdd, aBreak, aCont,
  aEnd, startA, List.map_cons, List.map_nil, List.cons_append, List.nil_append, List.length_cons, List.length_nil, List.replicate, List.getElem?_cons_zero, List.getElem?_cons_succ, List.set_cons_zero, List.set_cons_succ, Nat.reduceAdd, Nat.reduceSub, Nat.succ_eq_add_one, Int.reduceAdd, Int.reduceMul,
  reduceIte, Bool.false_eq_true, Bool.not_true, Bool.not_false, ite_true, ite_false])
section
variable {X : Cx} {W : WX} {a b e f : Expr} {es : List Expr} {ta tb tf : TE} {aa ab af : AE} {t : TA} {ar : AA} {p pos cpos : Pos} {neg : Bool}
end
end A

/-! ## [elt for a in xs for b in ys(a)] -/
namespace A
open PySem PySem.Spec L2 PyProof.Rows
local macro_rules | `(tactic| walk_at "A.go") => `(tactic| simp only [aSeq, aNext, aSet, aVar, atV_s, onB_b, onI_i, onII_i, onL1_i, onL2_i, it_l, it_t, it_s, it_x, ix_l, ix_t, ix_s, add_i, add_x, eq_i, eq_x, eq_b, is_b, aC, aNil, aCons, aOp, aUn, aTup, aLst, aCB, aNot, aAnd, aOr, aTst, aIfE, aAndV, aOrV, aNotV, aChn, aDrop, aRet, aRetN, aIf, agName, agNil, agCons, agTup, aAsg, aPar, aAug, aFor, aRng1, aRng2, aIter, aLc, aYes,
  aCl, aMt, aMk, aFl, aFst, aNeg, aI2, aI20, aLe, aLt, aGt, aGe, aSub, aMod, aMul, aFdv, aPow, aXor, aShl, aShr, agSub, aoN, aoS, aSl, aRev, aLen, aList, aTupOf, aLRg1, aLRg2, aAbs, aI2N, aMax, aMin, aDm, aAll, aAny, aBM, aApp, aPopAt, aPop, aClear, aRevM, aExt, aRepr, aClD, aLnSt, aIAdd, aBreak, aCont,
  aEnd, startA, List.map_cons, List.map_nil, List.cons_append, List.nil_append, List.length_cons, List.length_nil, List.replicate, List.getElem?_cons_zero, List.getElem?_cons_succ, List.set_cons_zero, List.set_cons_succ, Nat.reduceAdd, Nat.reduceSub, Nat.succ_eq_add_one, Int.reduceAdd, Int.reduceMul,
  reduceIte, Bool.false_eq_true, Bool.not_true, Bool.not_false, ite_true, ite_false])
section
variable {X : Cx} {W : WX} {elt tg iter tg1 iter1 : Expr} {ifs ifs1 : List Expr} {scope : Scope} {own : List (Str × Nat)} {pos : Pos} {wi wi1 : TI} {ai ai1 : AI} {g g1 : TG} {ag ag1 : AG} {tt tt1 : TT} {at_ at1 : AT} {te : TE} {ae : AE} {vs1 : List Nat}
end
end A

/-! ## max(xs, default=d) of whole numbers -/
namespace A
open PySem PySem.Spec L2 PyProof.Rows
local macro_rules | `(tactic| walk_at "A.go") => `(tactic| simp only [aSeq, aNext, aSet, aVar, atV_s, onB_b, onI_i, onII_i, onL1_i, onL2_i, it_l, it_t, it_s, it_x, ix_l, ix_t, ix_s, add_i, add_x, eq_i, eq_x, eq_b, is_b, aC, aNil, aCons, aOp, aUn, aTup, aLst, aCB, aNot, aAnd, aOr, aTst, aIfE, aAndV, aOrV, aNotV, aChn, aDrop, aRet, aRetN, aIf, agName, agNil, agCons, agTup, aAsg, aPar, aAug, aFor, aRng1, aRng2, aIter, aLc, aYes,
  aCl, aMt, aMk, aFl, aFst, aNeg, aI2, aI20, aLe, aLt, aGt, aGe, aSub, aMod, aMul, aFdv, aPow, aXor, aShl, aShr, agSub, aoN, aoS, aSl, aRev, aLen, aList, aTupOf, aLRg1, aLRg2, aAbs, aI2N, aMax, aMin, aDm, aAll, aAny, aBM, aApp, aPopAt, aPop, aClear, aRevM, aExt, aRepr, aClD, aLnSt, aIAdd, aBreak, aCont,
  aEnd, startA, List.map_cons, List.map_nil, List.cons_append, List.nil_append, List.length_cons, List.length_nil, List.replicate, List.getElem?_cons_zero, List.getElem?_cons_succ, List.set_cons_zero, List.set_cons_succ, Nat.reduceAdd, Nat.reduceSub, Nat.succ_eq_add_one, Int.reduceAdd, Int.reduceMul,
  reduceIte, Bool.false_eq_true, Bool.not_true, Bool.not_false, ite_true, ite_false])
section
variable {X : Cx} {W : WX} {e : Expr} {es : List Expr} {kws : List Keyword} {t tk : TA} {ar kr : AA} {p pos : Pos}
end
end A

/-! ## sorted(xs) of data of any kind -/
namespace A
open PySem PySem.Spec L2 PyProof.Rows
local macro_rules | `(tactic| walk_at "A.go") => `(tactic| simp only [aSeq, aNext, aSet, aVar, atV_s, onB_b, onI_i, onII_i, onL1_i, onL2_i, it_l, it_t, it_s, it_x, ix_l, ix_t, ix_s, add_i, add_x, eq_i, eq_x, eq_b, is_b, aC, aNil, aCons, aOp, aUn, aTup, aLst, aCB, aNot, aAnd, aOr, aTst, aIfE, aAndV, aOrV, aNotV, aChn, aDrop, aRet, aRetN, aIf, agName, agNil, agCons, agTup, aAsg, aPar, aAug, aFor, aRng1, aRng2, aIter, aLc, aYes,
  aCl, aMt, aMk, aFl, aFst, aNeg, aI2, aI20, aLe, aLt, aGt, aGe, aSub, aMod, aMul, aFdv, aPow, aXor, aShl, aShr, agSub, aoN, aoS, aSl, aRev, aLen, aList, aTupOf, aLRg1, aLRg2, aAbs, aI2N, aMax, aMin, aDm, aAll, aAny, aBM, aApp, aPopAt, aPop, aClear, aRevM, aExt, aRepr, aClD, aLnSt, aIAdd, aBreak, aCont,
  aEnd, startA, List.map_cons, List.map_nil, List.cons_append, List.nil_append, List.length_cons, List.length_nil, List.replicate, List.getElem?_cons_zero, List.getElem?_cons_succ, List.set_cons_zero, List.set_cons_succ, Nat.reduceAdd, Nat.reduceSub, Nat.succ_eq_add_one, Int.reduceAdd, Int.reduceMul,
  reduceIte, Bool.false_eq_true, Bool.not_true, Bool.not_false, ite_true, ite_false])
section
variable {X : Cx}
end
end A

/-! ## keyword-only parameters, all of them written; == of plain values where a raise is handled -/
namespace A
open PySem PySem.Spec L2 PyProof.Rows
local macro_rules | `(tactic| walk_at "A.go") => `(tactic| simp only [aSeq, aNext, aSet, aVar, atV_s, onB_b, onI_i, onII_i, onL1_i, onL2_i, it_l, it_t, it_s, it_x, ix_l, ix_t, ix_s, add_i, add_x, eq_i, eq_x, eq_b, is_b, aC, aNil, aCons, aOp, aUn, aTup, aLst, aCB, aNot, aAnd, aOr, aTst, aIfE, aAndV, aOrV, aNotV, aChn, aDrop, aRet, aRetN, aIf, agName, agNil, agCons, agTup, aAsg, aPar, aAug, aFor, aRng1, aRng2, aIter, aLc, aYes,
  aCl, aMt, aMk, aFl, aFst, aNeg, aI2, aI20, aLe, aLt, aGt, aGe, aSub, aMod, aMul, aFdv, aPow, aXor, aShl, aShr, agSub, aoN, aoS, aSl, aRev, aLen, aList, aTupOf, aLRg1, aLRg2, aAbs, aI2N, aMax, aMin, aDm, aAll, aAny, aBM, aApp, aPopAt, aPop, aClear, aRevM, aExt, aRepr, aClD, aLnSt, aIAdd, aBreak, aCont,
  aEnd, startA, List.map_cons, List.map_nil, List.cons_append, List.nil_append, List.length_cons, List.length_nil, List.replicate, List.getElem?_cons_zero, List.getElem?_cons_succ, List.set_cons_zero, List.set_cons_succ, Nat.reduceAdd, Nat.reduceSub, Nat.succ_eq_add_one, Int.reduceAdd, Int.reduceMul,
  reduceIte, Bool.false_eq_true, Bool.not_true, Bool.not_false, ite_true, ite_false])
end A

/-! ## a caught exception is handed to a def -/
namespace A
open PySem PySem.Spec L2 PyProof.Rows L2H
local macro_rules | `(tactic| walk_at "A.go") => `(tactic| simp only [aSeq, aNext, aSet, aVar, atV_s, onB_b, onI_i, onII_i, onL1_i, onL2_i, it_l, it_t, it_s, it_x, ix_l, ix_t, ix_s, add_i, add_x, eq_i, eq_x, eq_b, is_b, aC, aNil, aCons, aOp, aUn, aTup, aLst, aCB, aNot, aAnd, aOr, aTst, aIfE, aAndV, aOrV, aNotV, aChn, aDrop, aRet, aRetN, aIf, agName, agNil, agCons, agTup, aAsg, aPar, aAug, aFor, aRng1, aRng2, aIter, aLc, aYes,
  aCl, aMt, aMk, aFl, aFst, aNeg, aI2, aI20, aLe, aLt, aGt, aGe, aSub, aMod, aMul, aFdv, aPow, aXor, aShl, aShr, agSub, aoN, aoS, aSl, aRev, aLen, aList, aTupOf, aLRg1, aLRg2, aAbs, aI2N, aMax, aMin, aDm, aAll, aAny, aBM, aApp, aPopAt, aPop, aClear, aRevM, aExt, aRepr, aClD, aLnSt, aIAdd, aBreak, aCont,
  aEnd, startA, List.map_cons, List.map_nil, List.cons_append, List.nil_append, List.length_cons, List.length_nil, List.replicate, List.getElem?_cons_zero, List.getElem?_cons_succ, List.set_cons_zero, List.set_cons_succ, Nat.reduceAdd, Nat.reduceSub, Nat.succ_eq_add_one, Int.reduceAdd, Int.reduceMul,
  reduceIte, Bool.false_eq_true, Bool.not_true, Bool.not_false, ite_true, ite_false])
section
variable {X : Cx} {a C : Addr} {oe : Obj} {d : Option Addr} {pn : List (Addr × Obj)}
end
/-! ### a def that is handed the exception that is handled -/
abbrev SpE := Addr → Option Addr → Addr → SpA
structure FnE (P : Program) (w : World) (K : PySem.W.Frag) (mg : Str → Option Value) (base : Heap) (k : Nat) (f : Addr) (fd : FuncData) (ps : List Str) (sp : SpE) : Prop where
  len : ∀ a d C vs H Q E, csp ⟨K, w⟩ (sp a d C) vs H Q E → vs.length = ps.length
  run : ∀ (A : Around) (outer : List Env) (s : Shared) (H : Hp) (args : Args) (us : List Value) (vs : List V) (Q : VK) (E : XK) (a : Addr) (oe : Obj) (d : Option Addr) (C : Addr), RoomH k A → PinOk outer H s (a, oe) → Zc (.ref C) d oe → (∃ vs, oe.data = .fields vs) →
    Env0 P w K mg base A outer s H → BindsTo s fd args (ps.zip us) → Vals vs us → csp ⟨K, w⟩ (sp a d C) vs H Q E → codeAny (model P w) A (.call (.ref f) args) (CR (XT P w) outer P w H s Q E) s
section
variable {P : Program} {w : World} {K : PySem.W.Frag} {mg : Str → Option Value} {base : Heap}
structure GE (P : Program) (w : World) (K : PySem.W.Frag) (mg : Str → Option Value) (base : Heap) (x : Str) (k : Nat) (ps : List Str) (sp : SpE) : Prop where
  ex : ∃ f fd, mg x = some (.ref f) ∧ PySem.W.keepIn K (.ref f) = true ∧ Binds K fd ps [] ∧ FnE P w K mg base k f fd ps sp
end
theorem FnE.mono {P : Program} {w : World} {K : PySem.W.Frag} {mg : Str → Option Value} {base : Heap} {j k : Nat} {f : Addr} {fd : FuncData} {ps : List Str} {sp : SpE} (F : FnE P w K mg base j f fd ps sp) (h : j ≤ k) : FnE P w K mg base k f fd ps sp :=
  ⟨F.len, fun A o s H ar us vs Q E a oe d C hr => F.run A o s H ar us vs Q E a oe d C (hr.mono h)⟩
section
variable {X : Cx} {W : WX} {k : Nat} {f a C : Addr} {oe : Obj} {d : Option Addr} {fd : FuncData} {ps : List Str} {sp : SpE} {x : Str} {p pos : Pos} {e : Expr} {es : List Expr} {t : TA} {ar : AA}
end
end A

/-! ## dict comprehensions; a comprehension over a dict's keys; a sign in a text; texts joined -/
namespace A
open PySem PySem.Spec L2 PyProof.Rows
local macro_rules | `(tactic| walk_at "A.go") => `(tactic| simp only [aSeq, aNext, aSet, aVar, atV_s, onB_b, onI_i, onII_i, onL1_i, onL2_i, it_l, it_t, it_s, it_x, ix_l, ix_t, ix_s, add_i, add_x, eq_i, eq_x, eq_b, is_b, aC, aNil, aCons, aOp, aUn, aTup, aLst, aCB, aNot, aAnd, aOr, aTst, aIfE, aAndV, aOrV, aNotV, aChn, aDrop, aRet, aRetN, aIf, agName, agNil, agCons, agTup, aAsg, aPar, aAug, aFor, aRng1, aRng2, aIter, aLc, aYes,
  aCl, aMt, aMk, aFl, aFst, aNeg, aI2, aI20, aLe, aLt, aGt, aGe, aSub, aMod, aMul, aFdv, aPow, aXor, aShl, aShr, agSub, aoN, aoS, aSl, aRev, aLen, aList, aTupOf, aLRg1, aLRg2, aAbs, aI2N, aMax, aMin, aDm, aAll, aAny, aBM, aApp, aPopAt, aPop, aClear, aRevM, aExt, aRepr, aClD, aLnSt, aIAdd, aBreak, aCont,
  aEnd, startA, List.map_cons, List.map_nil, List.cons_append, List.nil_append, List.length_cons, List.length_nil, List.replicate, List.getElem?_cons_zero, List.getElem?_cons_succ, List.set_cons_zero, List.set_cons_succ, Nat.reduceAdd, Nat.reduceSub, Nat.succ_eq_add_one, Int.reduceAdd, Int.reduceMul,
  reduceIte, Bool.false_eq_true, Bool.not_true, Bool.not_false, ite_true, ite_false])
section
variable {X : Cx} {W : WX} {kx vx tg iter : Expr} {ifs : List Expr} {scope : Scope} {own : List (Str × Nat)} {pos : Pos} {wi : TI} {ai : AI} {g : TG} {ag : AG} {tt : TT} {at_ : AT} {tk tv : TE} {ak av : AE}
end
/-! ### [elt for k in d], d a dict that is locked for good -/
section
variable {X : Cx} {W : WX} {elt tg iter : Expr} {ifs : List Expr} {scope : Scope} {own : List (Str × Nat)} {pos : Pos} {g : TG} {ag : AG} {at_ : AT} {ae : AE} {o : Expr} {to : TE} {ao : AE}
end
/-! ### a sign in a text -/
/-- sep.join(texts) -/
def aJoin : D → List D → Sto → KD → Prop := fun d ds S Q => ∃ a e ys, d = .str a ∧ ds = [e] ∧ asL S e = some (List.map D.str ys) ∧ (ys.map (·.length)).sum + ys.length * a.length ≤ 16777216 ∧ Q (.str (Txt.join a ys)) S
end A

/-! ## several except clauses, each with a name -/
namespace A
open PySem PySem.Spec L2 PyProof.Rows
local macro_rules | `(tactic| walk_at "A.go") => `(tactic| simp only [aSeq, aNext, aSet, aVar, atV_s, onB_b, onI_i, onII_i, onL1_i, onL2_i, it_l, it_t, it_s, it_x, ix_l, ix_t, ix_s, add_i, add_x, eq_i, eq_x, eq_b, is_b, aC, aNil, aCons, aOp, aUn, aTup, aLst, aCB, aNot, aAnd, aOr, aTst, aIfE, aAndV, aOrV, aNotV, aChn, aDrop, aRet, aRetN, aIf, agName, agNil, agCons, agTup, aAsg, aPar, aAug, aFor, aRng1, aRng2, aIter, aLc, aYes,
  aCl, aMt, aMk, aFl, aFst, aNeg, aI2, aI20, aLe, aLt, aGt, aGe, aSub, aMod, aMul, aFdv, aPow, aXor, aShl, aShr, agSub, aoN, aoS, aSl, aRev, aLen, aList, aTupOf, aLRg1, aLRg2, aAbs, aI2N, aMax, aMin, aDm, aAll, aAny, aBM, aApp, aPopAt, aPop, aClear, aRevM, aExt, aRepr, aClD, aLnSt, aIAdd, aBreak, aCont,
  aEnd, startA, List.map_cons, List.map_nil, List.cons_append, List.nil_append, List.length_cons, List.length_nil, List.replicate, List.getElem?_cons_zero, List.getElem?_cons_succ, List.set_cons_zero, List.set_cons_succ, Nat.reduceAdd, Nat.reduceSub, Nat.succ_eq_add_one, Int.reduceAdd, Int.reduceMul,
  reduceIte, Bool.false_eq_true, Bool.not_true, Bool.not_false, ite_true, ite_false])
inductive HdsA (X : Cx) : List ExceptHandler → List (Value × Nat × (Addr → Value → Option Addr → TS)) → Prop
  | nil : HdsA X [] []
  | cons {x n : Str} {i : Nat} {c : Value} {ts : Addr → Value → Option Addr → TS} {b₀ : Stmt} {suite : List Stmt} {np pos' : Pos} {hds : List ExceptHandler} {l : List (Value × Nat × (Addr → Value → Option Addr → TS))} (hc : Names X x c)
      (hi : X.N[i]? = some n) (hln : X.env.kindOf n = some .local)
      (hsu : ∀ (a : Addr) (oe : Obj) (cls : Value) (d : Option Addr) (pn : List (Addr × Obj)), Zc cls d oe → (∃ vs, oe.data = .fields vs) → PSs (X.suite a ((a, oe) :: pn)) (b₀ :: suite) (ts a cls d)) (r : HdsA X hds l) :
      HdsA X (.ExceptHandler (some (.Name x np)) (some n) (b₀ :: suite) pos' :: hds) ((c, i, ts) :: l)
section
variable {X : Cx} {body : List Stmt} {h₀ : ExceptHandler} {hds : List ExceptHandler} {l : List (Value × Nat × (Addr → Value → Option Addr → TS))} {pos : Pos} {tb : WX → TS} {Wout : WX}
end
section
variable {X : Cx} {Wout : WX} {body : List Stmt} {h₀ : ExceptHandler} {hds : List ExceptHandler} {pos : Pos} {ab : AS} {l : List (Value × Nat × ASx)}
end
/-! ## C(k = v, ..): all by their names, in the parameters' order -/
structure CFk (P : Program) (w : World) (K : PySem.W.Frag) (mg : Str → Option Value) (base : Heap) (x : Str) (C : Addr) (k : Nat) (ps ks : List Str) (sp : SpA) : Prop where
  len : ps.length = ks.length + 1
  ex : ∃ f fd, mg x = some (.ref C) ∧ Mk K C f ∧ (∀ (s : Shared) (y : Value) (ws : List Value), K.In s.heap → ws.length = ks.length → BindsTo s fd ⟨[y], ks.zip ws⟩ (ps.zip (y :: ws))) ∧ FnA P w K mg base k f fd ps sp
end A

/-! ## odd things in (texts) -/
namespace A
open PySem PySem.Spec L2 PyProof.Rows
local macro_rules | `(tactic| walk_at "A.go") => `(tactic| simp only [aSeq, aNext, aSet, aVar, atV_s, onB_b, onI_i, onII_i, onL1_i, onL2_i, it_l, it_t, it_s, it_x, ix_l, ix_t, ix_s, add_i, add_x, eq_i, eq_x, eq_b, is_b, aC, aNil, aCons, aOp, aUn, aTup, aLst, aCB, aNot, aAnd, aOr, aTst, aIfE, aAndV, aOrV, aNotV, aChn, aDrop, aRet, aRetN, aIf, agName, agNil, agCons, agTup, aAsg, aPar, aAug, aFor, aRng1, aRng2, aIter, aLc, aYes,
  aCl, aMt, aMk, aFl, aFst, aNeg, aI2, aI20, aLe, aLt, aGt, aGe, aSub, aMod, aMul, aFdv, aPow, aXor, aShl, aShr, agSub, aoN, aoS, aSl, aRev, aLen, aList, aTupOf, aLRg1, aLRg2, aAbs, aI2N, aMax, aMin, aDm, aAll, aAny, aBM, aApp, aPopAt, aPop, aClear, aRevM, aExt, aRepr, aClD, aLnSt, aIAdd, aBreak, aCont,
  aEnd, startA, List.map_cons, List.map_nil, List.cons_append, List.nil_append, List.length_cons, List.length_nil, List.replicate, List.getElem?_cons_zero, List.getElem?_cons_succ, List.set_cons_zero, List.set_cons_succ, Nat.reduceAdd, Nat.reduceSub, Nat.succ_eq_add_one, Int.reduceAdd, Int.reduceMul,
  reduceIte, Bool.false_eq_true, Bool.not_true, Bool.not_false, ite_true, ite_false])
section
variable {X : Cx}
end
end A

/-! ## repr of data with dicts at any depth -/
namespace A
open PySem PySem.Spec L2 PyProof.Rows
local macro_rules | `(tactic| walk_at "A.go") => `(tactic| simp only [aSeq, aNext, aSet, aVar, atV_s, onB_b, onI_i, onII_i, onL1_i, onL2_i, it_l, it_t, it_s, it_x, ix_l, ix_t, ix_s, add_i, add_x, eq_i, eq_x, eq_b, is_b, aC, aNil, aCons, aOp, aUn, aTup, aLst, aCB, aNot, aAnd, aOr, aTst, aIfE, aAndV, aOrV, aNotV, aChn, aDrop, aRet, aRetN, aIf, agName, agNil, agCons, agTup, aAsg, aPar, aAug, aFor, aRng1, aRng2, aIter, aLc, aYes,
  aCl, aMt, aMk, aFl, aFst, aNeg, aI2, aI20, aLe, aLt, aGt, aGe, aSub, aMod, aMul, aFdv, aPow, aXor, aShl, aShr, agSub, aoN, aoS, aSl, aRev, aLen, aList, aTupOf, aLRg1, aLRg2, aAbs, aI2N, aMax, aMin, aDm, aAll, aAny, aBM, aApp, aPopAt, aPop, aClear, aRevM, aExt, aRepr, aClD, aLnSt, aIAdd, aBreak, aCont,
  aEnd, startA, List.map_cons, List.map_nil, List.cons_append, List.nil_append, List.length_cons, List.length_nil, List.replicate, List.getElem?_cons_zero, List.getElem?_cons_succ, List.set_cons_zero, List.set_cons_succ, Nat.reduceAdd, Nat.reduceSub, Nat.succ_eq_add_one, Int.reduceAdd, Int.reduceMul,
  reduceIte, Bool.false_eq_true, Bool.not_true, Bool.not_false, ite_true, ite_false])
def keyP : Key → PyData
  | .inl i => .int i
  | .inr x => .str x
mutual
inductive Gp (K : PySem.W.Frag) (H : Hp) : V → PyData → Prop
  | non : Gp K H .non .none
  | bl (b : Bool) : Gp K H (.bl b) (.bool b)
  | int (i : Int) : Gp K H (.int i) (.int i)
  | str (x : Str) : Gp K H (.str x) (.str x)
  | lst {a : Addr} {xs : List V} {ds : List PyData} : SqL K H a xs → GpAll K H xs ds → Gp K H (.ref a) (.list ds)
  | tup {a : Addr} {xs : List V} {ds : List PyData} : SqT K H a xs → GpAll K H xs ds → Gp K H (.ref a) (.tuple ds)
  | dct {a : Addr} {ks : List (Key × V)} {kvs : List (PyData × PyData)} : H a = some (.dK ks) → kvs.map (·.1) = ks.map (fun p => keyP p.1) → GpAll K H (ks.map (·.2)) (kvs.map (·.2)) → Gp K H (.ref a) (.dict kvs)
inductive GpAll (K : PySem.W.Frag) (H : Hp) : List V → List PyData → Prop
  | nil : GpAll K H [] []
  | cons {v : V} {vs : List V} {d : PyData} {ds : List PyData} : Gp K H v d → GpAll K H vs ds → GpAll K H (v :: vs) (d :: ds)
end
section
variable {X : Cx} {pins : List (Addr × Obj)} {σ : St} {H : Hp} {s : Shared}
theorem keys_all {prog : Program} {w : World} {h : Heap} {n : Nat} : ∀ {ks : List (Key × V)} {vs : List (Key × Value)} {es : List DictEntry}, KV ks vs → Pairs (mixKind prog w) es vs → PyData.showableAll (ks.map fun p => keyP p.1) = true →
    (∀ t ∈ PyData.shownAll (ks.map fun p => keyP p.1), t.length ≤ sizeLine) →
    (∃ as, ReadsAll h (es.map (·.key)) (ks.map fun p => keyP p.1) as) ∧ ReprAllK prog w [] h n (es.map (·.key)) (PyData.shownAll (ks.map fun p => keyP p.1)) ∧ Vals (ks.map (·.2)) (es.map (·.val))
  | _, _, _, .nil, .nil, _, _ => ⟨⟨[], .nil⟩, by simp only [List.map_nil, PyData.shownAll]; exact .nil, .nil⟩
  | (k, v) :: ks, (k2, u) :: vs, e :: es, .cons ⟨h1, h2⟩ t, .cons p1 p2 ps, hs, hz => by
    simp only at h1 h2 p1 p2
    subst h1
    have hs' : (keyP k).showable = true ∧ PyData.showableAll (ks.map fun p => keyP p.1) = true := by simpa [PyData.showableAll] using hs
    obtain ⟨⟨as, r1⟩, r2, r3⟩ := keys_all (h := h) (n := n) t ps hs'.2 fun t ht => hz t (by simp only [List.map_cons, PyData.shownAll]; exact List.mem_cons_of_mem _ ht)
    have z0 := hz (keyP k).shown (by simp only [List.map_cons, PyData.shownAll]; exact List.mem_cons_self)
    rcases keyIs_shape p1 with ⟨i, t, e1, e2⟩ | ⟨x, t, e1, e2⟩
    · subst e1
      have k1 : Reads h e.key (.int i) [] := by rw [e2]; exact .int i t
      have k2 : ReprK prog w [] h n e.key (PyData.int i).shown := by
        rw [e2]
        simp only [PyData.shown]
        exact .of_is (ReprIs.int t (by have := hs'.1; simpa [keyP, PyData.showable] using this)) _ _ _
      have k3 : L2.RelV v e.val := by rw [p2]; exact h2
      exact ⟨⟨[] ++ as, .cons k1 r1⟩, by simp only [List.map_cons, PyData.shownAll]; exact .cons k2 r2, .cons k3 r3⟩
    · subst e1
      have k1 : Reads h e.key (.str x) [] := by rw [e2]; exact .str x t
      have k2 : ReprK prog w [] h n e.key (PyData.str x).shown := by
        rw [e2]
        have z0 : (PyData.str x).shown.length ≤ sizeLine := z0
        simp only [PyData.shown] at z0 ⊢
        exact .of_is (ReprIs.str x t z0) _ _ _
      have k3 : L2.RelV v e.val := by rw [p2]; exact h2
      exact ⟨⟨[] ++ as, .cons k1 r1⟩, by simp only [List.map_cons, PyData.shownAll]; exact .cons k2 r2, .cons k3 r3⟩
mutual
theorem gp_rep (I : Inv X pins σ H s) : ∀ {v : V} {d : PyData}, Gp X.K H v d → ∀ {u : Value}, RelV v u → d.showable = true → d.shown.length ≤ sizeLine →
    ∃ as bs, Reads s.heap u d as ∧ ReadAtMost s.heap d.depth bs ∧ ReprK X.prog X.w bs s.heap d.depth u d.shown
  | _, _, .non, u, r, _, _ => by
    cases r
    exact ⟨_, [], .none, (fun _ h => nomatch h), by simp only [PyData.shown]; exact .of_is ReprIs.none _ _ _⟩
  | _, _, .bl b, u, r, _, _ => by
    cases r
    exact ⟨_, [], .bool b, (fun _ h => nomatch h), by simp only [PyData.shown]; exact .of_is (ReprIs.bool b) _ _ _⟩
  | _, _, .int i, u, r, hs, _ => by
    obtain ⟨t, rfl⟩ := r
    exact ⟨_, [], .int i t, (fun _ h => nomatch h), by simp only [PyData.shown]; exact .of_is (ReprIs.int t (by simpa [PyData.showable] using hs)) _ _ _⟩
  | _, _, .str x, u, r, _, hz => by
    obtain ⟨t, rfl⟩ := r
    exact ⟨_, [], .str x t, (fun _ h => nomatch h), by simp only [PyData.shown]; exact .of_is (ReprIs.str x t (by simpa only [PyData.shown] using hz)) _ _ _⟩
  | _, _, .lst (a := a) (ds := xs) hq g, u, r, hs, hz => by
    obtain rfl : u = Value.ref a := r
    obtain ⟨its, rv, ⟨o, n, ho, hc, _, hd⟩, _⟩ := I.list hq
    have hz' : (listText (PyData.shownAll xs)).length ≤ sizeLine := by simpa only [PyData.shown] using hz
    obtain ⟨as, bs, R, hb, hk⟩ := gp_repAll I g rv (by simpa [PyData.showable] using hs) (fun t ht => Nat.le_trans (listText_mem_le ht) hz')
    have RR : Reads s.heap (.ref a) (.list xs) _ := .list ho hc hd R
    have hna : a ∉ bs := not_mem_of_deeper RR (by simp only [PyData.depth]; omega) hb
    refine ⟨_, a :: bs, RR, ReadAtMost.cons RR (by simp only [PyData.depth]; omega) hb, ?_⟩
    simp only [PyData.depth, PyData.shown]
    cases rv with
    | nil =>
      cases g
      simp only [PyData.shownAll, listText_nil]
      exact ReprK.listEmpty ho hc hd
    | cons r1 rs => exact ReprK.list ho hc hd hna (by simpa using hk.length_eq) (fun i y e => hk.item i y (by simpa using e))
  | _, _, .tup (a := a) (ds := xs) hq g, u, r, hs, hz => by
    obtain rfl : u = Value.ref a := r
    obtain ⟨its, rv, ⟨o, ho, hc, n, hd⟩, _⟩ := I.tuple hq
    have hz' : (tupleText (PyData.shownAll xs)).length ≤ sizeLine := by simpa only [PyData.shown] using hz
    obtain ⟨as, bs, R, hb, hk⟩ := gp_repAll I g rv (by simpa [PyData.showable] using hs) (fun t ht => Nat.le_trans (tupleText_mem_le ht) hz')
    have RR : Reads s.heap (.ref a) (.tuple xs) _ := .tuple ho hc hd R
    have hna : a ∉ bs := not_mem_of_deeper RR (by simp only [PyData.depth]; omega) hb
    refine ⟨_, a :: bs, RR, ReadAtMost.cons RR (by simp only [PyData.depth]; omega) hb, ?_⟩
    simp only [PyData.depth, PyData.shown]
    exact ReprK.tuple ho hc hd hna hk
  | _, _, .dct (a := a) (ks := ks) (kvs := kvs) hH ek g, u, r, hs, hz => by
    obtain rfl : u = Value.ref a := r
    obtain ⟨_, hsys, vs, kv, o, es, ep, ho, hx, hd, _, hp, _⟩ := dk_of I.hok hH
    have hz' : (dictText (PyData.shownKv kvs)).length ≤ sizeLine := by simpa only [PyData.shown] using hz
    obtain ⟨hs1, hs2⟩ := PyData.showableKv_split kvs (by simpa [PyData.showable] using hs)
    have z1 : ∀ t ∈ PyData.shownAll (kvs.map (·.1)), t.length ≤ sizeLine := fun t ht => let ⟨p, hp, hl⟩ := PyData.shownKv_key_le kvs t ht; Nat.le_trans hl (Nat.le_trans (dictText_mem_le hp) hz')
    have z2 : ∀ t ∈ PyData.shownAll (kvs.map (·.2)), t.length ≤ sizeLine := fun t ht => let ⟨p, hp, hl⟩ := PyData.shownKv_val_le kvs t ht; Nat.le_trans hl (Nat.le_trans (dictText_mem_le hp) hz')
    obtain ⟨⟨as1, R1⟩, k1, rv⟩ := keys_all (h := s.heap) (n := PyData.depthKv kvs) kv hp (by rw [← ek]; exact hs1) (by rw [← ek]; exact z1)
    rw [← ek] at R1 k1
    obtain ⟨as2, bs, R2, hb, k2⟩ := gp_repAll I g rv hs2 z2
    have RR : Reads s.heap (.ref a) (.dict kvs) _ := .dict ho hx.1 hd R1 R2
    have hb' : ReadAtMost s.heap (PyData.depthKv kvs) bs := hb.mono (PyData.depthAll_vals_le kvs)
    have hna : a ∉ bs := not_mem_of_deeper RR (by simp only [PyData.depth]; omega) hb'
    refine ⟨_, a :: bs, RR, ReadAtMost.cons RR (by simp only [PyData.depth]; omega) hb', ?_⟩
    simp only [PyData.depth, PyData.shown, PyData.shownKv_eq]
    exact ReprK.dict ho hx.1 hd hsys hna (ReprEntriesK.of_two es.toList _ _ (k1.more_le (fun b hb => (List.not_mem_nil hb).elim) (Nat.le_refl _)) (k2.more_le (fun b hb => hb) (PyData.depthAll_vals_le kvs)))
theorem gp_repAll (I : Inv X pins σ H s) : ∀ {vs : List V} {ds : List PyData}, GpAll X.K H vs ds → ∀ {us : List Value}, Vals vs us → PyData.showableAll ds = true → (∀ t ∈ PyData.shownAll ds, t.length ≤ sizeLine) →
    ∃ as bs, ReadsAll s.heap us ds as ∧ ReadAtMost s.heap (PyData.depthAll ds) bs ∧ ReprAllK X.prog X.w bs s.heap (PyData.depthAll ds) us (PyData.shownAll ds)
  | _, _, .nil, us, r, _, _ => by
    cases r
    exact ⟨[], [], .nil, (fun _ h => nomatch h), by simp only [PyData.shownAll]; exact .nil⟩
  | _, _, .cons (d := d) (ds := ds) h t, us, r, hs, hz => by
    cases r with
    | cons r rs =>
      have hs' : d.showable = true ∧ PyData.showableAll ds = true := by simpa [PyData.showableAll] using hs
      obtain ⟨as, b1, R1, m1, k1⟩ := gp_rep I h r hs'.1 (hz _ (by simp only [PyData.shownAll]; exact List.mem_cons_self ..))
      obtain ⟨as2, b2, R2, m2, k2⟩ := gp_repAll I t rs hs'.2 fun t ht => hz t (by simp only [PyData.shownAll]; exact List.mem_cons_of_mem _ ht)
      refine ⟨as ++ as2, b1 ++ b2, .cons R1 R2, ?_, ?_⟩
      · simp only [PyData.depthAll]
        exact (m1.mono (Nat.le_max_left _ _)).append (m2.mono (Nat.le_max_right _ _))
      · simp only [PyData.depthAll, PyData.shownAll]
        exact .cons ((k1.more fun b hb => List.mem_append_left _ hb).level_le (Nat.le_max_left _ _)) (k2.more_le (fun b hb => List.mem_append_right _ hb) (Nat.le_max_right _ _))
end
def rReprG (K : PySem.W.Frag) : List V → Hp → VK → Prop := fun xs H Q => ∃ (x : V) (d : PyData), xs = [x] ∧ Gp K H x d ∧ ((∃ l, d = .list l) ∨ ∃ l, d = .tuple l) ∧ d.showable = true ∧ d.depth ≤ 60 ∧ d.shown.length ≤ sizeLine ∧ Q (.str d.shown) H
theorem call_reprG (hr : ∃ k, RoomG k X.A) : CallR X (.builtin "repr") (rReprG X.K) := by
  intro pins s σ H xs us Q I r h
  obtain ⟨k, hr⟩ := hr
  have hu := hr.room.un
  obtain ⟨x, d, rfl, g, sh, h1, h3, h4, q⟩ := h
  obtain ⟨u, rfl, ru⟩ := vals1 r
  have fin : ∀ h' u tk, (∀ b o, s.heap.get? b = some o → h'.get? b = some o) → EP X pins σ Q (.str d.shown u) { s with heap := h', toks := tk } := fun h' u tk hk => by
    exact ⟨.str d.shown, H, I.kept hk, ⟨u, rfl⟩, q⟩
  rcases sh with ⟨ds, rfl⟩ | ⟨ds, rfl⟩
  · cases g with
    | @lst a vs _ hl hi =>
      obtain rfl : u = Value.ref a := ru
      obtain ⟨its, rv, ⟨o, n, ho, hc, _, hd⟩, hz⟩ := I.list hl
      have hz' : (listText (PyData.shownAll ds)).length ≤ sizeLine := by simpa only [PyData.shown] using h4
      obtain ⟨as, bs, R, m, k2⟩ := gp_repAll I hi rv (by simpa [PyData.showable] using h1) fun t ht => Nat.le_trans (listText_mem_le ht) hz'
      have RR : Reads s.heap (.ref a) (.list ds) _ := .list ho hc hd R
      have hna : a ∉ bs := not_mem_of_deeper RR (by simp only [PyData.depth]; omega) m
      simp only [PyData.depth] at h3
      simp only [PyData.shown] at fin
      refine call_repr_slot (T := "list") (by omega) ⟨o, ho, hc⟩ F.slot_list_repr.toG ?_
      cases rv with
      | nil =>
        cases hi
        simp only [PyData.shownAll, listText_nil] at fin
        exact call_list_repr_empty ⟨o, ho, hc⟩ ho hd ⟨_, _, rfl, fin s.heap _ _ fun _ _ e => e⟩
      | cons r1 rs1 =>
        exact call_list_reprK (g := []) ho hc hd hna (by simpa using k2.length_eq) (fun i y e => k2.item i y (by simpa using e)) hr.gd (fun b _ => Clear.nil b) (by show X.A.units + 1 + _ < cLine; omega) (fun b o e => e) (fun h' u tk hk => ⟨_, _, rfl, fin h' u tk hk⟩) hz'
  · cases g with
    | @tup a vs _ hl hi =>
      obtain rfl : u = Value.ref a := ru
      obtain ⟨its, rv, ⟨o, ho, hc, n, hd⟩, hz⟩ := I.tuple hl
      have hz' : (tupleText (PyData.shownAll ds)).length ≤ sizeLine := by simpa only [PyData.shown] using h4
      obtain ⟨as, bs, R, m, k2⟩ := gp_repAll I hi rv (by simpa [PyData.showable] using h1) fun t ht => Nat.le_trans (tupleText_mem_le ht) hz'
      have RR : Reads s.heap (.ref a) (.tuple ds) _ := .tuple ho hc hd R
      have hna : a ∉ bs := not_mem_of_deeper RR (by simp only [PyData.depth]; omega) m
      simp only [PyData.depth] at h3
      simp only [PyData.shown] at fin
      refine call_repr_slot (T := "tuple") (by omega) ⟨o, ho, hc⟩ F.slot_tuple_repr ?_
      exact call_tuple_reprK (g := []) ho hc hd hna k2 hr.gd (fun b _ => Clear.nil b) (by show X.A.units + 1 + _ < cLine; omega) (fun b o e => e) (fun h' u tk hk => ⟨_, _, rfl, fin h' u tk hk⟩) hz'
end
/-- what a value is read as, dicts too -/
def rdG (S : Sto) : Nat → D → Option PyData
  | 0, _ => none
  | n + 1, d => match d with
    | .non => some .none
    | .bl b => some (.bool b)
    | .int i => some (.int i)
    | .str x => some (.str x)
    | .lst l => (rdL (rdG S n) l).map .list
    | .tup l => (rdL (rdG S n) l).map .tuple
    | .own a => match S a with
      | some (.lst l) => (rdL (rdG S n) l).map .list
      | some (.dct m) => (rdL (rdG S n) (m.map (·.2))).map fun qs => .dict ((m.map fun p => keyP p.1).zip qs)
      | _ => none
    | _ => none
theorem rdL_len {f : D → Option PyData} : ∀ {l : List D} {qs : List PyData}, rdL f l = some qs → qs.length = l.length
  | [], _, e => by cases e; rfl
  | d :: l, qs, e => by
    unfold rdL at e
    cases e1 : f d with
    | none => rw [e1] at e; cases e
    | some p =>
      cases e2 : rdL f l with
      | none => rw [e1, e2] at e; cases e
      | some q' =>
        rw [e1, e2] at e
        cases e
        rw [List.length_cons, List.length_cons, rdL_len e2]
theorem zip_fst {α β : Type} : ∀ (a : List α) (b : List β), b.length = a.length → (a.zip b).map (·.1) = a
  | [], _, _ => rfl
  | x :: a, y :: b, h => by rw [List.zip_cons_cons, List.map_cons, zip_fst a b (by simpa using h)]
theorem zip_snd {α β : Type} : ∀ (a : List α) (b : List β), b.length = a.length → (a.zip b).map (·.2) = b
  | [], [], _ => rfl
  | x :: a, y :: b, h => by rw [List.zip_cons_cons, List.map_cons, zip_snd a b (by simpa using h)]
theorem keyP_depth (k : Key) : (keyP k).depth = 0 := by cases k <;> simp only [keyP, PyData.depth]
theorem depthKv_zip {n : Nat} : ∀ (ks : List Key) (qs : List PyData), PyData.depthAll qs ≤ n → PyData.depthKv ((ks.map keyP).zip qs) ≤ n
  | [], qs, _ => by simp only [List.map_nil, List.zip_nil_left, PyData.depthKv]; omega
  | k :: ks, [], _ => by simp only [List.zip_nil_right, PyData.depthKv]; omega
  | k :: ks, q :: qs, h => by
    simp only [PyData.depthAll] at h
    have := depthKv_zip ks qs (n := n) (by omega)
    simp only [List.map_cons, List.zip_cons_cons, PyData.depthKv, keyP_depth]
    omega
theorem rdG_gp {K : KW} {F H : Hp} {S R : Sto} (T : Sta K F S R H) : ∀ (n : Nat) (d : D) (v : V) (p : PyData), Dv K F v d → rdG S n d = some p → Gp K.K H v p ∧ p.depth ≤ n := by
  intro n
  induction n with
  | zero => intro d v p _ e; cases e
  | succ n ih =>
    have all : ∀ (l : List D) (xs : List V) (q : List PyData), DvL K F xs l → rdL (rdG S n) l = some q → GpAll K.K H xs q ∧ PyData.depthAll q ≤ n := by
      intro l
      induction l with
      | nil =>
        intro xs q h e
        cases h
        cases e
        exact ⟨.nil, by simp only [PyData.depthAll]; omega⟩
      | cons d l ihl =>
        intro xs q h e
        cases h with
        | cons h1 h2 =>
          unfold rdL at e
          cases e1 : rdG S n d with
          | none => rw [e1] at e; cases e
          | some p =>
            cases e2 : rdL (rdG S n) l with
            | none => rw [e1, e2] at e; cases e
            | some q' =>
              rw [e1, e2] at e
              cases e
              obtain ⟨a1, a2⟩ := ih d _ p h1 e1
              obtain ⟨b1, b2⟩ := ihl _ q' h2 e2
              exact ⟨.cons a1 b1, by simp only [PyData.depthAll]; omega⟩
    intro d v p h e
    cases h with
    | non => cases e; exact ⟨.non, by simp only [PyData.depth]; omega⟩
    | bl b => cases e; exact ⟨.bl b, by simp only [PyData.depth]; omega⟩
    | int i => cases e; exact ⟨.int i, by simp only [PyData.depth]; omega⟩
    | str x => cases e; exact ⟨.str x, by simp only [PyData.depth]; omega⟩
    | lst h z l =>
      have e' : (rdL (rdG S n) _).map PyData.list = some p := e
      obtain ⟨q, e1, e2⟩ := Option.map_eq_some_iff.mp e'
      subst e2
      obtain ⟨a1, a2⟩ := all _ _ q l e1
      exact ⟨.lst (SqL.of (T.le _ _ h)) a1, by simp only [PyData.depth]; omega⟩
    | tup h z l =>
      have e' : (rdL (rdG S n) _).map PyData.tuple = some p := e
      obtain ⟨q, e1, e2⟩ := Option.map_eq_some_iff.mp e'
      subst e2
      obtain ⟨a1, a2⟩ := all _ _ q l e1
      exact ⟨.tup (SqT.same T.le h) a1, by simp only [PyData.depth]; omega⟩
    | own a =>
      have e' : (match S a with
        | some (.lst l) => (rdL (rdG S n) l).map PyData.list
        | some (.dct m) => (rdL (rdG S n) (m.map (·.2))).map fun qs => PyData.dict ((m.map fun p => keyP p.1).zip qs)
        | _ => none) = some p := e
      split at e'
      · rename_i l hl
        obtain ⟨q, e1, e2⟩ := Option.map_eq_some_iff.mp e'
        subst e2
        obtain ⟨_, z, xs, h1, h2⟩ := T.own _ _ hl
        obtain ⟨a1, a2⟩ := all _ _ q h2 e1
        exact ⟨.lst (SqL.of h1) a1, by simp only [PyData.depth]; omega⟩
      · rename_i m hl
        obtain ⟨q, e1, e2⟩ := Option.map_eq_some_iff.mp e'
        subst e2
        obtain ⟨_, z, ks, h1, h2⟩ := T.own _ _ hl
        have hv : DvL K F (ks.map (·.2)) (m.map (·.2)) ∧ ks.map (·.1) = m.map (·.1) := by
          have : ∀ {ks : List (Key × V)} {m : List (Key × D)}, DvP K F ks m → DvL K F (ks.map (·.2)) (m.map (·.2)) ∧ ks.map (·.1) = m.map (·.1) := by
            intro ks m h
            induction h with
            | nil => exact ⟨.nil, rfl⟩
            | cons a t ih => exact ⟨.cons a.2 ih.1, by rw [List.map_cons, List.map_cons, a.1, ih.2]⟩
          exact this h2
        obtain ⟨a1, a2⟩ := all _ _ q hv.1 e1
        have lq := rdL_len e1
        rw [List.length_map] at lq
        have ek : (m.map fun p => keyP p.1) = (m.map (·.1)).map keyP := by rw [List.map_map]; rfl
        have ek2 : (ks.map fun p => keyP p.1) = (ks.map (·.1)).map keyP := by rw [List.map_map]; rfl
        refine ⟨.dct h1 ?_ ?_, ?_⟩
        · rw [zip_fst _ _ (by rw [lq, List.length_map]), ek, ek2, hv.2]
        · rw [zip_snd _ _ (by rw [lq, List.length_map])]; exact a1
        · simp only [PyData.depth]
          rw [ek]
          have := depthKv_zip (m.map (·.1)) q a2
          omega
      · cases e'
    | _ => cases e
def aReprG : ON := fun ds S Q => ∃ d n p, ds = [d] ∧ n ≤ 50 ∧ rdG S n d = some p ∧ ((∃ l, p = .list l) ∨ ∃ l, p = .tuple l) ∧ p.showable = true ∧ p.leavesShort 60 = true ∧ p.weight ≤ 200000 ∧ Q (.str p.shown) S
theorem c_reprG {X : Cx} (hr : ∃ k, RoomG k X.A) : CallA X (.builtin "repr") (rReprG X.K) aReprG := by
  refine ⟨call_reprG hr, ?_⟩
  rintro xs ds H F S R Q P T dvs ⟨d, n, p, rfl, hn, h1, sh, g1, g2, g3, q⟩ po
  cases dvs with
  | cons h t =>
    cases t
    obtain ⟨i1, i2⟩ := rdG_gp T n d _ p h h1
    refine ⟨_, p, rfl, i1, sh, g1, by omega, ?_, po _ H F S _ (Same.refl _) T (.str _) q⟩
    have h := PyData.shown_le 60 (by decide) _ g2
    rw [sizeLine_eq]
    omega
end A

/-! ## repr of anything; truths counted and found in a list (of units, none is asked) -/
namespace A
open PySem PySem.Spec L2 PyProof.Rows
local macro_rules | `(tactic| walk_at "A.go") => `(tactic| simp only [aSeq, aNext, aSet, aVar, atV_s, onB_b, onI_i, onII_i, onL1_i, onL2_i, it_l, it_t, it_s, it_x, ix_l, ix_t, ix_s, add_i, add_x, eq_i, eq_x, eq_b, is_b, aC, aNil, aCons, aOp, aUn, aTup, aLst, aCB, aNot, aAnd, aOr, aTst, aIfE, aAndV, aOrV, aNotV, aChn, aDrop, aRet, aRetN, aIf, agName, agNil, agCons, agTup, aAsg, aPar, aAug, aFor, aRng1, aRng2, aIter, aLc, aYes,
  aCl, aMt, aMk, aFl, aFst, aNeg, aI2, aI20, aLe, aLt, aGt, aGe, aSub, aMod, aMul, aFdv, aPow, aXor, aShl, aShr, agSub, aoN, aoS, aSl, aRev, aLen, aList, aTupOf, aLRg1, aLRg2, aAbs, aI2N, aMax, aMin, aDm, aAll, aAny, aBM, aApp, aPopAt, aPop, aClear, aRevM, aExt, aRepr, aClD, aLnSt, aIAdd, aBreak, aCont,
  aEnd, startA, List.map_cons, List.map_nil, List.cons_append, List.nil_append, List.length_cons, List.length_nil, List.replicate, List.getElem?_cons_zero, List.getElem?_cons_succ, List.set_cons_zero, List.set_cons_succ, Nat.reduceAdd, Nat.reduceSub, Nat.succ_eq_add_one, Int.reduceAdd, Int.reduceMul,
  reduceIte, Bool.false_eq_true, Bool.not_true, Bool.not_false, ite_true, ite_false])
section
variable {X : Cx}
/-! ### truths in a list -/
end
end A

/-! ## C.m(e, .., k = v, ..) -/
namespace A
open PySem PySem.Spec L2 PyProof.Rows ClX
local macro_rules | `(tactic| walk_at "A.go") => `(tactic| simp only [aSeq, aNext, aSet, aVar, atV_s, onB_b, onI_i, onII_i, onL1_i, onL2_i, it_l, it_t, it_s, it_x, ix_l, ix_t, ix_s, add_i, add_x, eq_i, eq_x, eq_b, is_b, aC, aNil, aCons, aOp, aUn, aTup, aLst, aCB, aNot, aAnd, aOr, aTst, aIfE, aAndV, aOrV, aNotV, aChn, aDrop, aRet, aRetN, aIf, agName, agNil, agCons, agTup, aAsg, aPar, aAug, aFor, aRng1, aRng2, aIter, aLc, aYes,
  aCl, aMt, aMk, aFl, aFst, aNeg, aI2, aI20, aLe, aLt, aGt, aGe, aSub, aMod, aMul, aFdv, aPow, aXor, aShl, aShr, agSub, aoN, aoS, aSl, aRev, aLen, aList, aTupOf, aLRg1, aLRg2, aAbs, aI2N, aMax, aMin, aDm, aAll, aAny, aBM, aApp, aPopAt, aPop, aClear, aRevM, aExt, aRepr, aClD, aLnSt, aIAdd, aBreak, aCont,
  aEnd, startA, List.map_cons, List.map_nil, List.cons_append, List.nil_append, List.length_cons, List.length_nil, List.replicate, List.getElem?_cons_zero, List.getElem?_cons_succ, List.set_cons_zero, List.set_cons_succ, Nat.reduceAdd, Nat.reduceSub, Nat.succ_eq_add_one, Int.reduceAdd, Int.reduceMul,
  reduceIte, Bool.false_eq_true, Bool.not_true, Bool.not_false, ite_true, ite_false])
structure CMFk (P : Program) (w : World) (K : PySem.W.Frag) (mg : Str → Option Value) (base : Heap) (x m : Str) (k : Nat) (ps : List Str) (n : Nat) (ks : List Str) (dvs : List D) (ix : List Nat) (sp : SpA) : Prop where
  ex : ∃ C mc f fd vs us, mg x = some (.ref C) ∧ CRead K C mc ∧ PySem.W.findCls K (.ref C) mc m = some (.val (.ref f)) ∧ PySem.W.keepIn K (.ref f) = true ∧ Vals vs us ∧ (∀ F, DvL ⟨K, w⟩ F vs dvs) ∧
    (∀ (s : Shared) (as ws : List Value), K.In s.heap → as.length = n → ws.length = ks.length → BindsTo s fd ⟨as, ks.zip ws⟩ (ps.zip (pick ix (as ++ (us ++ ws))))) ∧ FnA P w K mg base k f fd ps sp
section
variable {X : Cx} {W : WX} {k n : Nat} {ps ks : List Str} {sp : SpA} {dvs : List D} {ix : List Nat} {x m : Str} {p1 p2 pos : Pos} {e : Expr} {es : List Expr} {kws : List Keyword} {t tk : TA} {ar kr : AA}
end
end A

/-! ## C(e, .., k = v, ..): an instance made with some of its parameters by their names, some by default -/
namespace A
open PySem PySem.Spec L2 PyProof.Rows ClX
local macro_rules | `(tactic| walk_at "A.go") => `(tactic| simp only [aSeq, aNext, aSet, aVar, atV_s, onB_b, onI_i, onII_i, onL1_i, onL2_i, it_l, it_t, it_s, it_x, ix_l, ix_t, ix_s, add_i, add_x, eq_i, eq_x, eq_b, is_b, aC, aNil, aCons, aOp, aUn, aTup, aLst, aCB, aNot, aAnd, aOr, aTst, aIfE, aAndV, aOrV, aNotV, aChn, aDrop, aRet, aRetN, aIf, agName, agNil, agCons, agTup, aAsg, aPar, aAug, aFor, aRng1, aRng2, aIter, aLc, aYes,
  aCl, aMt, aMk, aFl, aFst, aNeg, aI2, aI20, aLe, aLt, aGt, aGe, aSub, aMod, aMul, aFdv, aPow, aXor, aShl, aShr, agSub, aoN, aoS, aSl, aRev, aLen, aList, aTupOf, aLRg1, aLRg2, aAbs, aI2N, aMax, aMin, aDm, aAll, aAny, aBM, aApp, aPopAt, aPop, aClear, aRevM, aExt, aRepr, aClD, aLnSt, aIAdd, aBreak, aCont,
  aEnd, startA, List.map_cons, List.map_nil, List.cons_append, List.nil_append, List.length_cons, List.length_nil, List.replicate, List.getElem?_cons_zero, List.getElem?_cons_succ, List.set_cons_zero, List.set_cons_succ, Nat.reduceAdd, Nat.reduceSub, Nat.succ_eq_add_one, Int.reduceAdd, Int.reduceMul,
  reduceIte, Bool.false_eq_true, Bool.not_true, Bool.not_false, ite_true, ite_false])
structure CFg (P : Program) (w : World) (K : PySem.W.Frag) (mg : Str → Option Value) (base : Heap) (x : Str) (C : Addr) (k : Nat) (ps : List Str) (n : Nat) (ks : List Str) (dvs : List D) (ix : List Nat) (sp : SpA) : Prop where
  ex : ∃ f fd vs us, mg x = some (.ref C) ∧ Mk K C f ∧ Vals vs us ∧ (∀ F, DvL ⟨K, w⟩ F vs dvs) ∧
    (∀ (s : Shared) (y : Value) (as ws : List Value), K.In s.heap → as.length = n → ws.length = ks.length → BindsTo s fd ⟨y :: as, ks.zip ws⟩ (ps.zip (y :: pick ix (as ++ (us ++ ws))))) ∧ FnA P w K mg base k f fd ps sp
section
variable {X : Cx} {W : WX} {k n : Nat} {ps ks : List Str} {sp : SpA} {dvs : List D} {ix : List Nat} {x : Str} {p pos : Pos} {e : Expr} {es : List Expr} {kws : List Keyword} {t tk : TA} {ar kr : AA} {C : Addr}
end
end A

/-! ## exceptions of own classes as values -/
namespace A
open PySem PySem.Spec L2 PyProof.Rows ClX
local macro_rules | `(tactic| walk_at "A.go") => `(tactic| simp only [aSeq, aNext, aSet, aVar, atV_s, onB_b, onI_i, onII_i, onL1_i, onL2_i, it_l, it_t, it_s, it_x, ix_l, ix_t, ix_s, add_i, add_x, eq_i, eq_x, eq_b, is_b, aC, aNil, aCons, aOp, aUn, aTup, aLst, aCB, aNot, aAnd, aOr, aTst, aIfE, aAndV, aOrV, aNotV, aChn, aDrop, aRet, aRetN, aIf, agName, agNil, agCons, agTup, aAsg, aPar, aAug, aFor, aRng1, aRng2, aIter, aLc, aYes,
  aCl, aMt, aMk, aFl, aFst, aNeg, aI2, aI20, aLe, aLt, aGt, aGe, aSub, aMod, aMul, aFdv, aPow, aXor, aShl, aShr, agSub, aoN, aoS, aSl, aRev, aLen, aList, aTupOf, aLRg1, aLRg2, aAbs, aI2N, aMax, aMin, aDm, aAll, aAny, aBM, aApp, aPopAt, aPop, aClear, aRevM, aExt, aRepr, aClD, aLnSt, aIAdd, aBreak, aCont,
  aEnd, startA, List.map_cons, List.map_nil, List.cons_append, List.nil_append, List.length_cons, List.length_nil, List.replicate, List.getElem?_cons_zero, List.getElem?_cons_succ, List.set_cons_zero, List.set_cons_succ, Nat.reduceAdd, Nat.reduceSub, Nat.succ_eq_add_one, Int.reduceAdd, Int.reduceMul,
  reduceIte, Bool.false_eq_true, Bool.not_true, Bool.not_false, ite_true, ite_false])
/-- an exception object of the class cls, its dict at d -/
def ExV (cls : Value) (d : Option Addr) (a : Addr) : HO := .ext fun h => ∃ (oe : Obj) (vs : Array Value), h.get? a = some oe ∧ Zc cls d oe ∧ oe.data = .fields vs
theorem exV_ok {P : Program} {w : World} {H : Hp} {h : Heap} {a : Addr} {cls : Value} {d : Option Addr} {oe : Obj} {vs : Array Value} (e : h.get? a = some oe) (z : Zc cls d oe) (hd : oe.data = .fields vs) : ObjOk P w H h a (ExV cls d a) :=
  ⟨⟨oe, vs, e, z, hd⟩, ⟨oe, e⟩, fun _ _ ⟨o, v, q, r⟩ k => ⟨o, v, k o q, r⟩⟩
section
variable {X : Cx} {W : WX} {e : Expr} {t : St → Hp → XK → Prop}
def tMkV (t : St → Hp → XK → Prop) : TE := fun σ H Q => t σ H fun cls d H1 => ∀ a, H1 a = none → Q (.ref a) (upd H1 a (ExV cls d a))
theorem pe_mkV (h : PMk X e t) : PE X e (tMkV t) := by
  refine ⟨fun pins s σ H Q I q => ?_⟩
  refine wpAny_mono (h pins s σ H _ I q) (fun u s1 hu => ?_) fun _ _ x => x
  obtain ⟨a, oe, vs, sI, H', cls, d, rfl, J, k, hne, ha, hz, hd, h1, na, os, ag, r, q1⟩ := hu
  refine ⟨.ref a, upd H' a (ExV cls d a), ?_, rfl, q1 a na⟩
  have J2 := J.laidN (h' := s1.heap) (t' := s1.toks) k hne na (exV_ok ha hz hd)
  obtain ⟨hp, g, dr, tk, os1⟩ := s1
  exact ⟨J2.ok, os.trans J2.os, ag, J2.base, J2.loc, J2.cell, J2.free, J2.freeC, J2.pin, J2.hok, J2.len⟩
end
/-- a new exception as data -/
theorem kindXd {K : KW} {F H : Hp} {dx : Addr} {gs : List (Str × V)} (hd : H dx = some (.xd gs)) {c : Cell} (hc : CellOk K F H dx c) : False := by
  cases c with
  | lst ds => obtain ⟨_, xs, z, _⟩ := hc; rw [hd] at z; cases z
  | dct m => obtain ⟨_, l, z, _⟩ := hc; rw [hd] at z; cases z
  | ins C fs => obtain ⟨_, _, z, _⟩ := hc; rw [hd] at z; cases z
  | pot => obtain ⟨_, _, z, _⟩ := hc; rw [hd] at z; cases z
  | dtt m => obtain ⟨_, l, z, _⟩ := hc; rw [hd] at z; cases z
theorem newX {K : KW} {F H : Hp} {S R : Sto} {C a d : Addr} {gs : List (Str × V)} {fs : List (Str × D)} (T : Sta K F S R H) (hd : H d = some (.xd gs)) (ha : H a = none) (hp : DvP K F gs fs) :
    ∃ F', Same F F' ∧ Sta K F' S R (upd H a (ExV (.ref C) (some d) a)) ∧ Dv K F' (.ref a) (.xv C a (some d) (fs.map (·.1)) (fs.map (·.2))) := by
  obtain ⟨h1, h2⟩ := dvP_split hp
  have ad : a ≠ d := by rintro rfl; rw [hd] at ha; cases ha
  have sm : Same F (upd F d (.xd gs)) := fun b u e => by
    by_cases q : b = d
    · subst q
      rw [upd_same]
      have := T.le _ _ e
      rw [hd] at this
      exact this
    · rw [upd_ne q]
      exact e
  have T1 : Sta K (upd F d (.xd gs)) S R H := by
    refine ⟨fun b u e => ?_, fun b c e => ?_, fun b c e => ?_⟩
    · by_cases q : b = d
      · subst q
        rw [upd_same] at e
        cases e
        exact hd
      · rw [upd_ne q] at e
        exact T.le b u e
    · obtain ⟨z1, z2⟩ := T.own b c e
      have q : b ≠ d := by rintro rfl; exact kindXd hd z2
      exact ⟨by rw [upd_ne q]; exact z1, z2.mono sm fun u z => z⟩
    · obtain ⟨z1, z3, z2⟩ := T.hid b c e
      have q : b ≠ d := by rintro rfl; exact kindXd hd z2
      exact ⟨by rw [upd_ne q]; exact z1, z3, z2.mono sm fun u z => z⟩
  have T2 := T1.frozen (o := ExV (.ref C) (some d) a) ha
  have k2 : Same (upd F d (.xd gs)) (upd (upd F d (.xd gs)) a (ExV (.ref C) (some d) a)) := same_upd (T1.free ha).1
  exact ⟨_, sm.trans k2, T2, .xv (φ := fun h => ∃ (oe : Obj) (vs : Array Value), h.get? a = some oe ∧ Zc (.ref C) (some d) oe ∧ oe.data = .fields vs) upd_same (fun h z => z) (by rw [upd_ne (fun z => ad z.symm), upd_same]) h1 ((h2.mono sm).mono k2)⟩
theorem newX0 {K : KW} {F H : Hp} {S R : Sto} {C a : Addr} {φ : Heap → Prop} (T : Sta K F S R H) (ha : H a = none) (hx : XvH C a none φ) : ∃ F', Same F F' ∧ Sta K F' S R (upd H a (.ext φ)) ∧ Dv K F' (.ref a) (.xv C a none [] []) :=
  ⟨_, same_upd (T.free ha).1, T.frozen ha, .xv0 upd_same hx⟩
section
variable {X : Cx} {W : WX} {B newId initId : String} {bmB : List Value} {e : Expr} {es : List Expr} {te : TE} {ta : TA} {x : Str} {p pos : Pos}
/-- C(e, ..) -/
def aXV (C : Addr) (fn : List Str) (ar : AA) : AE := fun ρ S Q E => ar ρ S (fun ds S1 => ds.length = fn.length ∧ ds.length ≤ 1000 ∧ ∀ a d, Q (.xv C a (some d) ((fn.zip ds).reverse.map (·.1)) ((fn.zip ds).reverse.map (·.2))) S1) E
theorem ea_xv {C : Addr} {k : Nat} {fn : List Str} {ar : AA} (G : RzF X.prog X.w X.K X.mg X.base x C k fn) (hr : RoomG (k + 1) X.A) (h : ArA X W (e :: es) ta ar) (hg : Gl X x := by rfl)
    (hdb : (x == ("__debug__" : Str)) = false := by decide) (he : starEach (e :: es) X.env = (false, eval e X.env) :: starEach es X.env := by rfl) (hpl : (backTo pos (starEach es X.env)).any (·.1) = false := by rfl) :
    EA X W (.Call (.Name x p) (e :: es) [] pos) (tMkV (tRz C fn ta)) (aXV C fn ar) := by
  obtain ⟨B, newId, initId, bmB, fI, fd, ps, hm, F, T, iC, tI, hb, F1⟩ := G.ex
  refine ⟨pe_mkV (pmk_G F T iC tI F1 hr hb hm h.pa hg hdb he hpl), fun σ H F' S R ρ Q E P T' en wo q po => ?_⟩
  refine h.ra σ H F' S R ρ _ E _ T' en wo q fun vs H1 F1' S1 ds e1 T1 dvs q1 => ?_
  have l := dvs.len
  refine ⟨by rw [l]; exact q1.1, by rw [l]; exact q1.2.1, fun d hd a ha => ?_⟩
  have T2 := T1.junk (u := .xd (fn.zip vs).reverse) hd
  obtain ⟨F3, s3, T3, dv⟩ := newX (C := C) T2 upd_same ha (dvP_rev (dvP_zip dvs))
  exact po _ _ F3 S1 _ (e1.trans s3) T3 dv (q1.2.2 a d)
/-- C(e), no __init__ of its own -/
def aXV0 (C : Addr) (ae : AE) : AE := fun ρ S Q E => ae ρ S (fun _ S1 => ∀ a, Q (.xv C a none [] []) S1) E
theorem ea_xv0 {C : Addr} {ae : AE} (F : ExcBaseFacts B newId initId bmB) (q : PySem.W.excIn X.K C bmB newId = true) (gC : X.mg x = some (.ref C)) (kC : PySem.W.keepIn X.K (.ref C) = true) (he : EA X W e te ae) (hg : Gl X x := by rfl)
    (hs : starEach [e] X.env = (false, eval e X.env) :: starEach [] X.env := by rfl) (hdb : (x == ("__debug__" : Str)) = false := by decide) :
    EA X W (.Call (.Name x p) [e] [] pos) (fun σ H Q => te σ H fun _ H1 => ∀ a, H1 a = none → Q (.ref a) (upd H1 a (ExO (.ref C) a))) (aXV0 C ae) := by
  refine ⟨pe_exc1 F q gC kC hg he.pe hs hdb, fun σ H F' S R ρ Q E P T' en wo q po => ?_⟩
  refine he.re σ H F' S R ρ _ E _ T' en wo q fun v H1 F1' S1 d e1 T1 dv q1 => ?_
  intro a ha
  obtain ⟨F3, s3, T3, dv⟩ := newX0 (C := C) (φ := fun h => ∃ (oe : Obj) (vs : Array Value), h.get? a = some oe ∧ Zc (.ref C) none oe ∧ oe.data = .fields vs ∧ vs[1]? = some .none ∧ vs[2]? = some .none ∧ 4 < vs.size) T1 ha (fun h ⟨oe, vs, z1, z2, z3, _⟩ => ⟨oe, vs, z1, z2, z3⟩)
  exact po _ _ F3 S1 _ (e1.trans s3) T3 dv (q1 a)
/-! ### isinstance, and a field -/
def rIsX (K : PySem.W.Frag) : List V → Hp → VK → Prop := fun xs H Q => ∃ (a C : Addr) (d : Option Addr) (φ : Heap → Prop) (c : V) (u : Value) (b : Bool), xs = [.ref a, c] ∧ H a = some (.ext φ) ∧ XvH C a d φ ∧ ClsV c u ∧ XdAt H d ∧ ExcG K C ∧ PySem.W.kitOne K (.ref C) u = some b ∧ Q (.bl b) H
theorem call_isX : CallR X (.builtin "isinstance") (rIsX X.K) := by
  intro pins s σ H xs us Q I r h
  obtain ⟨a, C, d, φ, c, u, b, rfl, hH, hx, hc, hd, E, e, q⟩ := h
  obtain ⟨u1, u2, rfl, r1, r2⟩ := vals2 r
  cases (show u1 = Value.ref a from r1)
  have e2 : u2 = u := ClsV.eq hc r2
  subst e2
  have ho := I.hok a _ hH
  obtain ⟨oe, vs, hget, hz, hv⟩ := hx _ ho.1
  obtain ⟨od, J⟩ := exc_inst I.hok hz ⟨vs, hv⟩ hd hget
  exact PySem.W.kia_one (exc_kit (X := X) E) I.kIn J e (fun z => nomatch z) fun tk => ⟨.bl b, H, I.kept (t' := tk) fun _ _ z => z, rfl, q⟩
theorem xv_of {K : KW} {F H : Hp} {S R : Sto} {v : V} {C a : Addr} {d : Option Addr} {ns : List Str} {fs : List D} (T : Sta K F S R H) (h : Dv K F v (.xv C a d ns fs)) : v = .ref a ∧ XdAt H d ∧ ∃ φ, H a = some (.ext φ) ∧ XvH C a d φ := by
  cases h with
  | xv p x h1 h2 h3 => exact ⟨rfl, .inr ⟨_, _, rfl, T.le _ _ h1⟩, _, T.le _ _ p, x⟩
  | xv0 p x => exact ⟨rfl, .inl rfl, _, T.le _ _ p, x⟩
def aIsX (K : PySem.W.Frag) (ok : Addr → Prop) : ON := fun ds S Q => ∃ C a d ns fs c u b, ds = [.xv C a d ns fs, c] ∧ clsD c = some u ∧ ok C ∧ PySem.W.kitOne K (.ref C) u = some b ∧ Q (.bl b) S
theorem c_isX {ok : Addr → Prop} (hok : ∀ C, ok C → ExcG X.K C) : CallA X (.builtin "isinstance") (rIsX X.K) (aIsX X.K ok) := by
  refine ⟨call_isX, ?_⟩
  rintro xs ds H F S R Q P T dvs ⟨C, a, d, ns, fs, c, u, b, rfl, h1, h2, h3, q⟩ po
  cases dvs with
  | cons a1 t1 =>
    cases t1 with
    | cons a2 t2 =>
      cases t2
      obtain ⟨rfl, hx, φ, hp, hq⟩ := xv_of T a1
      exact ⟨a, C, d, φ, _, u, b, rfl, hp, hq, clsD_ok a2 h1, hx, hok C h2, h3, po _ H F S _ (Same.refl _) T (.bl b) q⟩
def tXvf (K : PySem.W.Frag) (f : Str) (te : TE) : TE := fun σ H Q => te σ H fun x H1 => ∃ (a C dx : Addr) (φ : Heap → Prop) (gs : List (Str × V)) (v : V), x = .ref a ∧ H1 a = some (.ext φ) ∧ XvH C a (some dx) φ ∧ H1 dx = some (.xd gs) ∧ gs.lookup f = some v ∧ ExcG K C ∧ PySem.W.findIn K (.ref C) f = some none ∧ Q v H1
theorem pe_xvf {f : Str} (he : PE X e te) (hb : attributeBase e f X.env (eval e X.env) = eval e X.env := by rfl) : PE X (.Attribute e f pos) (tXvf X.K f te) := by
  refine ⟨fun pins s σ H Q I h => ?_⟩
  refine attr_of hb (thn (he.run pins s σ H _ I h) fun u s1 hh => ?_)
  obtain ⟨x, H1, I1, rx, a, C, dx, φ, gs, v, rfl, hH, hx, hd, hl, E, hno, q⟩ := hh
  obtain rfl : u = Value.ref a := rx
  have ho := I1.hok a _ hH
  obtain ⟨oe, vs, hget, hz, hv⟩ := hx _ ho.1
  have hxd : ObjOk X.prog X.w H1 s1.heap dx (.xd gs) := I1.hok dx _ hd
  obtain ⟨mA, hns, hr⟩ := hxd
  obtain ⟨od, hod, hlk⟩ := lookIn_ns hns
  obtain ⟨u, hu, ru⟩ := RelO.some_of (v := v) (o := mA f) (by rw [← hl]; exact hr f)
  have J : PySem.W.InstAt s1.heap a oe C (some od) := ⟨hget, hz.1, by unfold PySem.W.notCls; rw [hv] <;> rfl, by rw [hz.2]; exact hod⟩
  exact HandSPX.exc_get I1.kIn J E.ga E.gg E.exC (PySem.W.findObj_own E.hdC hno rfl (by rw [hlk, hu])) (handed_of ru) ⟨v, H1, I1.tok _, ru, q⟩
/-- e.f -/
def aXvf (ok : Addr → Prop) (f : Str) (ae : AE) : AE := fun ρ S Q E => ae ρ S (fun v S1 => ∃ C a d ns fs g, v = .xv C a d ns fs ∧ ok C ∧ (ns.zip fs).lookup f = some g ∧ Q g S1) E
theorem ea_xvf {ok : Addr → Prop} {ae : AE} {f : Str} (hok : ∀ C, ok C → ExcG X.K C ∧ PySem.W.findIn X.K (.ref C) f = some none) (he : EA X W e te ae) (hb : attributeBase e f X.env (eval e X.env) = eval e X.env := by rfl) :
    EA X W (.Attribute e f pos) (tXvf X.K f te) (aXvf ok f ae) := by
  refine ⟨pe_xvf he.pe hb, fun σ H F S R ρ Q E' P T en wo q po => he.re σ H F S R ρ _ E' _ T en wo q fun v H1 F1 S1 dv e1 T1 dd q1 => ?_⟩
  obtain ⟨C, a, d, ns, fs, g, rfl, hC, hl, q2⟩ := q1
  obtain ⟨E, hno⟩ := hok C hC
  cases dd with
  | xv p x h1 h2 h3 =>
    obtain ⟨v, hv, dv⟩ := fld_at h2 h3 hl
    exact ⟨a, C, _, _, _, v, rfl, T1.le _ _ p, x, T1.le _ _ h1, hv, E, hno, po v H1 F1 S1 g e1 T1 dv q2⟩
  | xv0 => cases hl
end
end A

/-! ## C(k = e, ..), C an exception class with its own __init__ -/
namespace A
open PySem PySem.Spec L2 PyProof.Rows ClX
local macro_rules | `(tactic| walk_at "A.go") => `(tactic| simp only [aSeq, aNext, aSet, aVar, atV_s, onB_b, onI_i, onII_i, onL1_i, onL2_i, it_l, it_t, it_s, it_x, ix_l, ix_t, ix_s, add_i, add_x, eq_i, eq_x, eq_b, is_b, aC, aNil, aCons, aOp, aUn, aTup, aLst, aCB, aNot, aAnd, aOr, aTst, aIfE, aAndV, aOrV, aNotV, aChn, aDrop, aRet, aRetN, aIf, agName, agNil, agCons, agTup, aAsg, aPar, aAug, aFor, aRng1, aRng2, aIter, aLc, aYes,
  aCl, aMt, aMk, aFl, aFst, aNeg, aI2, aI20, aLe, aLt, aGt, aGe, aSub, aMod, aMul, aFdv, aPow, aXor, aShl, aShr, agSub, aoN, aoS, aSl, aRev, aLen, aList, aTupOf, aLRg1, aLRg2, aAbs, aI2N, aMax, aMin, aDm, aAll, aAny, aBM, aApp, aPopAt, aPop, aClear, aRevM, aExt, aRepr, aClD, aLnSt, aIAdd, aBreak, aCont,
  aEnd, startA, List.map_cons, List.map_nil, List.cons_append, List.nil_append, List.length_cons, List.length_nil, List.replicate, List.getElem?_cons_zero, List.getElem?_cons_succ, List.set_cons_zero, List.set_cons_succ, Nat.reduceAdd, Nat.reduceSub, Nat.succ_eq_add_one, Int.reduceAdd, Int.reduceMul,
  reduceIte, Bool.false_eq_true, Bool.not_true, Bool.not_false, ite_true, ite_false])
section
variable {X : Cx} {W : WX} {B newId initId : String} {bmB : List Value} {kws : List Keyword} {tk : TA} {x : Str} {p pos : Pos}
theorem pmk_GK {C fI : Addr} {k : Nat} {fd : FuncData} {ps fn ks : List Str} {ix : List Nat} (F : EB B newId initId bmB) (T : OexG X.K C bmB newId) (iC : PySem.W.findIn X.K (.ref C) "__init__" = some (some (.ref fI))) (tI : PySem.W.typeIn X.K (.ref fI) = some (.type "function"))
    (F1 : FnG X.prog X.w X.K X.mg X.base k fI fd ps (spExi C fn)) (hr : RoomG (k + 1) X.A) (hm : X.mg x = some (.ref C))
    (hb : ∀ (s : Shared) (y : Value) (ws : List Value), X.K.In s.heap → ws.length = ks.length → BindsTo s fd ⟨[y], ks.zip ws⟩ (ps.zip (y :: pick ix ws)))
    (ha : PK X kws tk) (hg : Gl X x := by rfl)
    (hall : (backToKw pos (keywordEach kws X.env)).all (·.1.isSome) = true := by rfl)
    (hks : (backToKw pos (keywordEach kws X.env)).filterMap (·.1) = ks := by rfl) (hdb : (x == ("__debug__" : Str)) = false := by decide)
    (hpl : ((backTo pos (starEach [] X.env)).any (·.1) || (backToKw pos (keywordEach kws X.env)).any (·.1.isNone)) = false := by rfl) :
    PMk X (.Call (.Name x p) [] kws pos) (fun σ H Q => tk σ H fun vs H1 => vs.length = ks.length ∧ (pick ix vs).length = fn.length ∧ ∀ d, H1 d = none → Q (.ref C) (some d) (upd H1 d (.xd (fn.zip (pick ix vs)).reverse))) := by
  intro pins s σ H Q I h
  refine wpAny_Call_Name_kw (ld_glob I hg hm ?_ hdb)
  refine PySem.W.callWith_KW0 (h₀ := X.base) I.ok.mod.kin T.kC hall (thn (ha.run pos pins s σ H _ I h) fun us s1 ⟨vs, H1, I1, r1, hz, hz2, q1⟩ => ⟨I1.kIn, ?_⟩) hpl
  rw [hks]
  show wpAny _ _ (call (.ref C) [] (ks.zip us)) _ _ _
  obtain ⟨hp, g, dr, tk0, os⟩ := s1
  obtain ⟨nm, N, qn, bs, bm, hdct, sn, sub, ab, col, dd, k0, k1, k2, k3, k5, hC, hT⟩ := PySem.W.excInit_of I1.kIn T.made
  have hsz : hp.objs.size ≤ hp.objs.size + 1 := Nat.le_succ _
  have hn : H1 (hp.objs.size + 1) = none := I1.hok.fresh hsz
  have kk : ∀ b o, hp.get? b = some o → ((hp.push (PySem.W.kdv_tup [])).push (HandSPX.excO C hp.objs.size)).get? b = some o := fun b o z => Heap.get?_push_of_some _ (Heap.get?_push_of_some _ z)
  have hget : ((hp.push (PySem.W.kdv_tup [])).push (HandSPX.excO C hp.objs.size)).get? (hp.objs.size + 1) = some (HandSPX.excO C hp.objs.size) := by heap_get
  have I2 : Inv X pins σ (upd H1 (hp.objs.size + 1) (exo (hp.objs.size + 1) C none)) ⟨(hp.push (PySem.W.kdv_tup [])).push (HandSPX.excO C hp.objs.size), g, dr, tk0, os⟩ := I1.laid (t' := tk0) kk hsz (exo_ok hget)
  have r2 : Vals (V.ref (hp.objs.size + 1) :: pick ix vs) (Value.ref (hp.objs.size + 1) :: pick ix us) := .cons rfl (pick_vals r1)
  have hq : spExi C fn (.ref (hp.objs.size + 1) :: pick ix vs) (upd H1 (hp.objs.size + 1) (exo (hp.objs.size + 1) C none))
      (fun v H2 => v = .non ∧ ∃ d, H1 d = none ∧ Chg (upd H1 (hp.objs.size + 1) (exo (hp.objs.size + 1) C none)) H2 (hp.objs.size + 1) C d (fn.zip (pick ix vs)).reverse) (fun _ _ _ => False) :=
    ⟨_, _, rfl, hz2, upd_same, fun dx H' n ch => ⟨rfl, dx, by rw [upd_ne ch.2.2.1] at n; exact n, ch⟩⟩
  have l2 : us.length = ks.length := by rw [← r1.length]; exact hz
  have hb' := hb _ (Value.ref (hp.objs.size + 1)) us I2.kIn l2
  obtain ⟨_, _, _, Fn, hB⟩ := F.mro3 (C := C) hT
  refine wpAny_call (callK (rest := []) Fn hB hC (PySem.W.looks_findIn I1.kIn iC) (fun self => PySem.W.bind_fn I1.kIn self tI) (Nat.zero_le _)
    (codeAny_mono (F1.run _ X.stack _ _ ⟨[Value.ref (hp.objs.size + 1)], ks.zip us⟩ (Value.ref (hp.objs.size + 1) :: pick ix us) _ _ (fun _ _ _ => False) (hr.make C [] (ks.zip us)) (I2.env0.make C [] (ks.zip us)) hb' r2 hq) fun r s' hq' => ?_))
  cases r with
  | error er =>
    obtain ⟨_, _, _, _, _, _, _, _, _, _, _, _, z⟩ := hq'
    exact z.elim
  | ok fl =>
    cases fl with
    | ret u =>
      obtain ⟨v, H2, os2, bare2, un2, hok2, rv, ev, d, hd1, ch⟩ := hq'
      subst ev
      obtain ⟨h2, g2, d2, t2, os'⟩ := s'
      refine ⟨rv, mk_end (raises_own T.exC T.tyC) I1 hsz kk un2 hok2 os2 bare2 ch.1 ch.2.1 hd1 ?_⟩
      have eH : upd (del H2 (hp.objs.size + 1)) d (.xd (fn.zip (pick ix vs)).reverse) = upd H1 d (.xd (fn.zip (pick ix vs)).reverse) := funext fun b => by
        by_cases b1 : b = d
        · rw [b1, upd_same, upd_same]
        · rw [upd_ne b1, upd_ne b1]
          by_cases b2 : b = hp.objs.size + 1
          · rw [b2, L2.del_same, hn]
          · rw [L2.del_ne b2, ch.2.2.2 b b2 b1, upd_ne b2]
      rw [eH]
      exact q1 d hd1
    | next => exact hq'.elim
    | brk => exact hq'.elim
    | cont => exact hq'.elim
/-- .. called by names alone -/
structure RzK (P : Program) (w : World) (K : PySem.W.Frag) (mg : Str → Option Value) (base : Heap) (x : Str) (C : Addr) (k : Nat) (fn ks : List Str) (ix : List Nat) : Prop where
  ex : ∃ (B newId initId : String) (bmB : List Value) (fI : Addr) (fd : FuncData) (ps : List Str), mg x = some (.ref C) ∧ EB B newId initId bmB ∧ OexG K C bmB newId ∧ PySem.W.findIn K (.ref C) "__init__" = some (some (.ref fI)) ∧ PySem.W.typeIn K (.ref fI) = some (.type "function") ∧
    (∀ (s : Shared) (y : Value) (ws : List Value), K.In s.heap → ws.length = ks.length → BindsTo s fd ⟨[y], ks.zip ws⟩ (ps.zip (y :: pick ix ws))) ∧ FnG P w K mg base k fI fd ps (spExi C fn)
/-- C(k = e, ..) -/
def aXVK (C : Addr) (fn : List Str) (m : Nat) (ix : List Nat) (kr : AA) : AE := fun ρ S Q E => kr ρ S (fun ds S1 => ds.length = m ∧ (pick ix ds).length = fn.length ∧ ∀ a d, Q (.xv C a (some d) ((fn.zip (pick ix ds)).reverse.map (·.1)) ((fn.zip (pick ix ds)).reverse.map (·.2))) S1) E
theorem ea_xvK {C : Addr} {k : Nat} {fn ks : List Str} {ix : List Nat} {kr : AA} (G : RzK X.prog X.w X.K X.mg X.base x C k fn ks ix) (hr : RoomG (k + 1) X.A) (h : KwA X W kws tk kr) (hg : Gl X x := by rfl)
    (hall : (backToKw pos (keywordEach kws X.env)).all (·.1.isSome) = true := by rfl)
    (hks : (backToKw pos (keywordEach kws X.env)).filterMap (·.1) = ks := by rfl) (hdb : (x == ("__debug__" : Str)) = false := by decide)
    (hpl : ((backTo pos (starEach [] X.env)).any (·.1) || (backToKw pos (keywordEach kws X.env)).any (·.1.isNone)) = false := by rfl) :
    EA X W (.Call (.Name x p) [] kws pos) (tMkV (fun σ H Q => tk σ H fun vs H1 => vs.length = ks.length ∧ (pick ix vs).length = fn.length ∧ ∀ d, H1 d = none → Q (.ref C) (some d) (upd H1 d (.xd (fn.zip (pick ix vs)).reverse)))) (aXVK C fn ks.length ix kr) := by
  obtain ⟨B, newId, initId, bmB, fI, fd, ps, hm, F, T, iC, tI, hb, F1⟩ := G.ex
  refine ⟨pe_mkV (pmk_GK F T iC tI F1 hr hm hb h.pk hg hall hks hdb hpl), fun σ H F' S R ρ Q E P T' en wo q po => ?_⟩
  refine h.ra σ H F' S R ρ _ E _ T' en wo q fun vs H1 F1' S1 ds e1 T1 dvs q1 => ?_
  have l := dvs.len
  have dp := pick_dv (ix := ix) dvs
  refine ⟨by rw [l]; exact q1.1, by rw [dp.len]; exact q1.2.1, fun d hd a ha => ?_⟩
  have T2 := T1.junk (u := .xd (fn.zip (pick ix vs)).reverse) hd
  obtain ⟨F3, s3, T3, dv⟩ := newX (C := C) T2 upd_same ha (dvP_rev (dvP_zip dp))
  exact po _ _ F3 S1 _ (e1.trans s3) T3 dv (q1.2.2 a d)
end
end A

/-! ## sep.join(texts) -/
namespace A
open PySem PySem.Spec L2 PyProof.Rows
local macro_rules | `(tactic| walk_at "A.go") => `(tactic| simp only [aSeq, aNext, aSet, aVar, atV_s, onB_b, onI_i, onII_i, onL1_i, onL2_i, it_l, it_t, it_s, it_x, ix_l, ix_t, ix_s, add_i, add_x, eq_i, eq_x, eq_b, is_b, aC, aNil, aCons, aOp, aUn, aTup, aLst, aCB, aNot, aAnd, aOr, aTst, aIfE, aAndV, aOrV, aNotV, aChn, aDrop, aRet, aRetN, aIf, agName, agNil, agCons, agTup, aAsg, aPar, aAug, aFor, aRng1, aRng2, aIter, aLc, aYes,
  aCl, aMt, aMk, aFl, aFst, aNeg, aI2, aI20, aLe, aLt, aGt, aGe, aSub, aMod, aMul, aFdv, aPow, aXor, aShl, aShr, agSub, aoN, aoS, aSl, aRev, aLen, aList, aTupOf, aLRg1, aLRg2, aAbs, aI2N, aMax, aMin, aDm, aAll, aAny, aBM, aApp, aPopAt, aPop, aClear, aRevM, aExt, aRepr, aClD, aLnSt, aIAdd, aBreak, aCont,
  aEnd, startA, List.map_cons, List.map_nil, List.cons_append, List.nil_append, List.length_cons, List.length_nil, List.replicate, List.getElem?_cons_zero, List.getElem?_cons_succ, List.set_cons_zero, List.set_cons_succ, Nat.reduceAdd, Nat.reduceSub, Nat.succ_eq_add_one, Int.reduceAdd, Int.reduceMul,
  reduceIte, Bool.false_eq_true, Bool.not_true, Bool.not_false, ite_true, ite_false])
section
variable {X : Cx} {W : WX} {o e : Expr} {to te : TE} {ao ae : AE} {pos apos : Pos}
theorem dv_strs {K : KW} {F : Hp} {ys : List Str} {xs : List V} (h : DvL K F xs (ys.map D.str)) : xs = ys.map V.str := by
  induction ys generalizing xs with
  | nil => cases h; rfl
  | cons y ys ih =>
    cases h with
    | cons h t => cases h; rw [ih t]; rfl
abbrev rJoin (K : PySem.W.Frag) : V → List V → Hp → VK → Prop := fun x xs H Q => ∃ a p, ∃ ys : List Str, x = .str a ∧ xs = [.ref p] ∧ (SqL K H p (ys.map V.str) ∨ SqT K H p (ys.map V.str)) ∧ (ys.map (·.length)).sum + ys.length * a.length ≤ 16777216 ∧ Q (.str (Txt.join a ys)) H
theorem m_join : MthA X "str.join" (rJoin X.K) aJoin := by
  refine ⟨mt_join, ?_⟩
  rintro x xs d ds H F S R Q P T dx dvs ⟨a, e, ys, rfl, rfl, hl, hz, q⟩ po
  cases dx
  cases dvs with
  | cons h t =>
    cases t
    obtain ⟨p, zs, rfl, h1, h2, _⟩ := asL_ok T h hl
    have ez := dv_strs h2
    subst ez
    exact ⟨a, p, ys, rfl, rfl, .inl (SqL.of h1), hz, po _ H F S _ (Same.refl _) T (.str _) q⟩
def aBMs (a : OM) (ao : AE) (ar : AA) : AE := fun ρ S Q E => ao ρ S (fun d S1 => (∃ z, d = .str z) ∧ ar ρ S1 (fun ds S2 => a d ds S2 Q) E) E
theorem ea_bmS {id : String} {name : Str} {r : V → List V → Hp → VK → Prop} {a : OM} {es : List Expr} {t : TA} {ar : AA} (hm : MthA X id r a) (slot : Slot "str" name id) (hty : typeOf (.builtin id) = pure (.type "method_descriptor")) (ho : EA X W o to ao) (ha : ArA X W (e :: es) t ar)
    (hbase : attributeBase o name X.env (eval o X.env) = eval o X.env := by rfl)
    (hfew : ((backTo pos (starEach (e :: es) X.env)).all (fun x => !x.1) && (backToKw pos (keywordEach [] X.env)).all (fun x => x.1.isSome)
      && decide ((e :: es).length + ([] : List Keyword).length + (if ([] : List Keyword).isEmpty then 0 else 1) < 30)) = true := by rfl)
    (hline : (apos.endLine == pos.line) = true := by rfl) (hs : starEach (e :: es) X.env = (false, eval e X.env) :: starEach es X.env := by rfl) (hplain : (backTo pos (starEach es X.env)).any (·.1) = false := by rfl) :
    EA X W (.Call (.Attribute o name apos) (e :: es) [] pos) (tBM X.K "str" r to t) (aBMs a ao ar) := by
  refine ⟨pe_bm PySem.F.plainAttrs_str slot hty hm.m ho.pe ha.pa hbase hfew hline hs hplain, fun σ H F S R ρ Q E P T en wo q po => ho.re σ H F S R ρ _ E _ T en wo q fun v H1 F1 S1 d e1 T1 dv q1 => ?_⟩
  obtain ⟨⟨z, rfl⟩, q1⟩ := q1
  cases dv
  refine ⟨rfl, ha.ra σ H1 F1 S1 R ρ _ E _ T1 (en.mono e1) (wo.mono e1) q1 fun vs H2 F2 S2 ds e2 T2 dvs q2 => ?_⟩
  exact hm.k _ _ _ _ H2 F2 S2 R Q P T2 (.str _) dvs q2 (po.mono (e1.trans e2))
theorem ea_join {te : TA} {ae : AA} (ho : EA X W o to ao) (ha : ArA X W [e] te ae) (hbase : attributeBase o "join" X.env (eval o X.env) = eval o X.env := by rfl)
    (hfew : ((backTo pos (starEach [e] X.env)).all (fun x => !x.1) && (backToKw pos (keywordEach [] X.env)).all (fun x => x.1.isSome)
      && decide (([e] : List Expr).length + ([] : List Keyword).length + (if ([] : List Keyword).isEmpty then 0 else 1) < 30)) = true := by rfl)
    (hline : (apos.endLine == pos.line) = true := by rfl) (hs : starEach [e] X.env = (false, eval e X.env) :: starEach [] X.env := by rfl) (hplain : (backTo pos (starEach [] X.env)).any (·.1) = false := by rfl) :
    EA X W (.Call (.Attribute o "join" apos) [e] [] pos) (tBM X.K "str" (rJoin X.K) to te) (aBMs aJoin ao ae) := ea_bmS m_join PySem.F.slot_str_join PySem.F.type_str_join ho ha hbase hfew hline hs hplain
end
end A

namespace A
open PySem PySem.Spec L2 PyProof.Rows
local macro_rules | `(tactic| walk_at "A.go") => `(tactic| simp only [aSeq, aNext, aSet, aVar, atV_s, onB_b, onI_i, onII_i, onL1_i, onL2_i, it_l, it_t, it_s, it_x, ix_l, ix_t, ix_s, add_i, add_x, eq_i, eq_x, eq_b, is_b, aC, aNil, aCons, aOp, aUn, aTup, aLst, aCB, aNot, aAnd, aOr, aTst, aIfE, aAndV, aOrV, aNotV, aChn, aDrop, aRet, aRetN, aIf, agName, agNil, agCons, agTup, aAsg, aPar, aAug, aFor, aRng1, aRng2, aIter, aLc, aYes,
  aCl, aMt, aMk, aFl, aFst, aNeg, aI2, aI20, aLe, aLt, aGt, aGe, aSub, aMod, aMul, aFdv, aPow, aXor, aShl, aShr, agSub, aoN, aoS, aSl, aRev, aLen, aList, aTupOf, aLRg1, aLRg2, aAbs, aI2N, aMax, aMin, aDm, aAll, aAny, aBM, aApp, aPopAt, aPop, aClear, aRevM, aExt, aRepr, aClD, aLnSt, aIAdd, aBreak, aCont,
  aEnd, startA, List.map_cons, List.map_nil, List.cons_append, List.nil_append, List.length_cons, List.length_nil, List.replicate, List.getElem?_cons_zero, List.getElem?_cons_succ, List.set_cons_zero, List.set_cons_succ, Nat.reduceAdd, Nat.reduceSub, Nat.succ_eq_add_one, Int.reduceAdd, Int.reduceMul,
  reduceIte, Bool.false_eq_true, Bool.not_true, Bool.not_false, ite_true, ite_false])
/-- the classes, in their order -/
def nm17 : List Str := ["NoYard", "NoHeap", "NoOrder", "NotLeast", "NoTold", "NoText", "NoRow", "NoThing", "NoSuch", "NotAsked", "TooMany"]
def dueL (k : Nat) : List Bool := if k < 7 then [true, true, false, false, false, false] else if k = 7 then [false, false, true, false, false, false] else if k = 8 then [false, false, true, true, false, false] else [false, false, false, false, decide (k = 9), decide (k = 10)]
def top17 (K : PySem.W.Frag) : List Value := [.ref (He.ga K "YardError"), .type "ValueError", .type "LookupError", .type "KeyError", .type "RuntimeError", .type "ArithmeticError"]
def C17 (K : PySem.W.Frag) (k : Nat) : Addr := He.ga K (nm17.getD k "")
/-- who is a what -/
def KE17 (K : PySem.W.Frag) : Prop := ∀ k ∈ List.range 11, (∀ j ∈ List.range 11, PySem.W.kitOne K (.ref (C17 K k)) (.ref (C17 K j)) = some (decide (k = j))) ∧ (top17 K).map (PySem.W.kitOne K (.ref (C17 K k))) = (dueL k).map some
instance (K : PySem.W.Frag) : Decidable (KE17 K) := by unfold KE17; infer_instance
def kKE17 : Chk := fun K => decide (KE17 K)
end A

namespace A
open PySem PySem.Spec L2 PyProof.Rows
local macro_rules | `(tactic| walk_at "A.go") => `(tactic| simp only [aSeq, aNext, aSet, aVar, atV_s, onB_b, onI_i, onII_i, onL1_i, onL2_i, it_l, it_t, it_s, it_x, ix_l, ix_t, ix_s, add_i, add_x, eq_i, eq_x, eq_b, is_b, aC, aNil, aCons, aOp, aUn, aTup, aLst, aCB, aNot, aAnd, aOr, aTst, aIfE, aAndV, aOrV, aNotV, aChn, aDrop, aRet, aRetN, aIf, agName, agNil, agCons, agTup, aAsg, aPar, aAug, aFor, aRng1, aRng2, aIter, aLc, aYes,
  aCl, aMt, aMk, aFl, aFst, aNeg, aI2, aI20, aLe, aLt, aGt, aGe, aSub, aMod, aMul, aFdv, aPow, aXor, aShl, aShr, agSub, aoN, aoS, aSl, aRev, aLen, aList, aTupOf, aLRg1, aLRg2, aAbs, aI2N, aMax, aMin, aDm, aAll, aAny, aBM, aApp, aPopAt, aPop, aClear, aRevM, aExt, aRepr, aClD, aLnSt, aIAdd, aBreak, aCont,
  aEnd, startA, List.map_cons, List.map_nil, List.cons_append, List.nil_append, List.length_cons, List.length_nil, List.replicate, List.getElem?_cons_zero, List.getElem?_cons_succ, List.set_cons_zero, List.set_cons_succ, Nat.reduceAdd, Nat.reduceSub, Nat.succ_eq_add_one, Int.reduceAdd, Int.reduceMul,
  reduceIte, Bool.false_eq_true, Bool.not_true, Bool.not_false, ite_true, ite_false])
def top (i : Nat) : Stmt := PySem.Challenge.pw_noaslong_k17_refusals_made.main.body.getD i (.Pass ⟨0, 0, 0, 0⟩)
def d0 : He.DefD := ⟨("NoYard", some "__init__"), "__init__", "NoYard.__init__", defArgs (inClass (top 2) 0), defBody (inClass (top 2) 0), defScope (inClass (top 2) 0), [], []⟩
def d1 : He.DefD := ⟨("NoText", some "__init__"), "__init__", "NoText.__init__", defArgs (inClass (top 7) 0), defBody (inClass (top 7) 0), defScope (inClass (top 7) 0), [], []⟩
def d2 : He.DefD := ⟨("NoThing", some "__init__"), "__init__", "NoThing.__init__", defArgs (inClass (top 9) 0), defBody (inClass (top 9) 0), defScope (inClass (top 9) 0), [], []⟩
def d3 : He.DefD := ⟨("NoSuch", some "__init__"), "__init__", "NoSuch.__init__", defArgs (inClass (top 10) 0), defBody (inClass (top 10) 0), defScope (inClass (top 10) 0), [], []⟩
def d4 : He.DefD := ⟨("NotAsked", some "__init__"), "__init__", "NotAsked.__init__", defArgs (inClass (top 11) 0), defBody (inClass (top 11) 0), defScope (inClass (top 11) 0), [], []⟩
def d5 : He.DefD := ⟨("TooMany", some "__init__"), "__init__", "TooMany.__init__", defArgs (inClass (top 12) 0), defBody (inClass (top 12) 0), defScope (inClass (top 12) 0), [], []⟩
def d6 : He.DefD := ⟨("_law_pot", none), "_law_pot", "_law_pot", defArgs (top 14), defBody (top 14), defScope (top 14), [], []⟩
def d7 : He.DefD := ⟨("_law_take", none), "_law_take", "_law_take", defArgs (top 15), defBody (top 15), defScope (top 15), [], []⟩
def d8 : He.DefD := ⟨("_law_among", none), "_law_among", "_law_among", defArgs (top 16), defBody (top 16), defScope (top 16), [], []⟩
def d9 : He.DefD := ⟨("_law_shuffled", none), "_law_shuffled", "_law_shuffled", defArgs (top 17), defBody (top 17), defScope (top 17), [], []⟩
def d10 : He.DefD := ⟨("_law_word", none), "_law_word", "_law_word", defArgs (top 18), defBody (top 18), defScope (top 18), [], []⟩
def d11 : He.DefD := ⟨("_law_class", none), "_law_class", "_law_class", defArgs (top 19), defBody (top 19), defScope (top 19), [], []⟩
def d12 : He.DefD := ⟨("_law_stands", none), "_law_stands", "_law_stands", defArgs (top 20), defBody (top 20), defScope (top 20), [], []⟩
def d13 : He.DefD := ⟨("_law_due", none), "_law_due", "_law_due", defArgs (top 21), defBody (top 21), defScope (top 21), [], []⟩
def d14 : He.DefD := ⟨("_law_made_right", none), "_law_made_right", "_law_made_right", defArgs (top 22), defBody (top 22), defScope (top 22), [], []⟩
def d15 : He.DefD := ⟨("_law_right", none), "_law_right", "_law_right", defArgs (top 23), defBody (top 23), defScope (top 23), [], []⟩
def d16 : He.DefD := ⟨("law", none), "law", "law", defArgs (top 24), defBody (top 24), defScope (top 24), [], []⟩
def fn0 : List He.DefD := [d0, d1, d2, d3, d4, d5, d6, d7, d8, d9, d10, d11, d12, d13, d14, d15, d16]
def fn : List He.DefD := fn0
def fc0 : List Chk := [
  kFree "len",
  kFree "abs",
  kFree "max",
  kFree "divmod",
  kFree "range",
  kGlo "NotLeast",
  kExcs ["NoYard", "NoHeap", "NoOrder", "NotLeast", "NoTold", "NoText", "NoRow", "NoThing", "NoSuch", "NotAsked", "TooMany"],
  kFree "isinstance",
  kGlo "NoOrder",
  kGlo "NoHeap",
  kGlo "NoYard",
  kGlo "NoThing",
  kGlo "NoRow",
  kGlo "NoText",
  kGlo "NoTold",
  kGlo "TooMany",
  kGlo "NotAsked",
  kGlo "NoSuch",
  kFree "KeyError",
  kFree "LookupError",
  kFree "ValueError",
  kGlo "YardError",
  kFree "ArithmeticError",
  kFree "RuntimeError",
  kFree "enumerate",
  kNoFs ["NoYard", "NoHeap", "NoOrder", "NotLeast", "NoTold", "NoText", "NoRow", "NoThing", "NoSuch", "NotAsked", "TooMany"] ["what", "who", "row", "limit"],
  kFree "repr",
  kExb "NoTold" bmVE "ValueError.__new__",
  kExb "NotLeast" bmVE "ValueError.__new__",
  kExb "NoOrder" bmVE "ValueError.__new__",
  kExb "NoHeap" bmVE "ValueError.__new__",
  kExb "NoRow" bmVE "ValueError.__new__",
  kFree "min",
  kKE17,
  kOex "NoYard" bmVE "ValueError.__new__" ("NoYard", some "__init__") ["what", "who"],
  kBcl "YardError" "ValueError.__init__",
  kOex "NoText" bmVE "ValueError.__new__" ("NoText", some "__init__") ["row"],
  kOex "TooMany" bmAE "ArithmeticError.__new__" ("TooMany", some "__init__") ["limit"],
  kBty "ArithmeticError" "ArithmeticError.__init__",
  kOex "NotAsked" bmRE "RuntimeError.__new__" ("NotAsked", some "__init__") ["who"],
  kBty "RuntimeError" "RuntimeError.__init__",
  kOex "NoSuch" bmKE "LookupError.__new__" ("NoSuch", some "__init__") ["who"],
  kBty "KeyError" "KeyError.__init__",
  kOex "NoThing" bmLE "LookupError.__new__" ("NoThing", some "__init__") ["who"],
  kBty "LookupError" "LookupError.__init__",
  kGlo "_law_pot",
  kGlo "_law_take",
  kGlo "_law_among",
  kGlo "_law_word",
  kGlo "_law_class",
  kGlo "_law_stands",
  kGlo "_law_due",
  kGlo "_law_made_right",
  kGlo "_law_right",
  kGlo "law"]
def fc : List Chk := fc0
def nm0 : List PySem.Str := ["YardError", "NoYard", "NoHeap", "NoOrder", "NotLeast", "NoTold", "NoText", "NoRow", "NoThing", "NoSuch", "NotAsked", "TooMany", "_law_pot", "_law_take", "_law_among", "_law_shuffled", "_law_word", "_law_class", "_law_stands", "_law_due"]
def nm1 : List PySem.Str := ["_law_made_right", "_law_right"]
def names : List PySem.Str := nm0 ++ nm1
abbrev R : PySem.W.OpenRow := PySem.W.OpenLaw.row PySem.Challenge.rw_noaslong_k17_refusals_made
abbrev hk : PySem.W.Hook := hookY 6 fc fn
def ob (s : PySem.W.SharedT) : He.AlD := obYG 6 fc fn (HandSHeadRun.getT s)
theorem ob_ok (s : PySem.W.SharedT) : ob s = hk.obs s.abs := obYG_eq (HandSHeadRun.getT_eq s)
theorem run1_ (w : World) : Run1 R 40000 w := by
  intro os
  kernel_rfl
theorem run2_ (w : World) : Run2 R (PySem.W.view R.prog [24]) 40000 names w := by
  intro os
  kernel_rfl
theorem runP0_ (w : World) : RunQ R 40000 w 6 fc0 fn0 := by
  intro os
  kernel_rfl
theorem run3_ (w : World) : Run3 R hk ob 40000 w := (runP0_ w)
theorem run_ (w : World) : HandSHeadRun.RunEq R (PySem.W.view R.prog [24]) hk ob 40000 names w := runEq_of (run1_ w) (run2_ w) (run3_ w)
end A
section
open PySem PySem.W PySem.Calls PyProof.Rows
/-- the law, but for the walk -/
theorem A.pre_ (F : ∀ (w : World) (mg : PySem.Str → Option Value) (g : Addr) (h : Heap), (∃ K : PySem.W.Frag, K.In h ∧ A.SaysX A.fc A.fn K) → h.Ns mainGlobals mg → mg ("law" : PySem.Str) = some (.ref g) → ∃ (K : PySem.W.Frag) (fd : FuncData) (sp : A.SpA), K.In h ∧ (∀ (s : Shared) (u : Value), PySem.BindsTo s fd ⟨[u], []⟩ [(("_law_script" : PySem.Str), u)]) ∧
      (∀ ns : List Int, ns.length ≤ 63 → A.Bits ns → sp [.scr ns] A.noS (fun d _ => d = .bl true) A.noX) ∧ ∀ base : Heap, K.In base → base.Ns mainGlobals mg → A.FnA A.R.prog w K mg base 5 g fd ["_law_script"] sp) : PySem.Challenge.rw_noaslong_k17_refusals_made.Holds := by
  w_on; o_law
  refine HandSHeadRun.head_any (r := A.R) (q := view A.R.prog [24]) (H := A.hk) (ob := A.ob) (M := 40000) (loose := A.names) (d := HandSHeadRun.topDef A.R.prog 24) (kwd := []) A.ob_ok
    (by kernel_rfl) (fun s => by kernel_rfl) A.run_ (by kernel_rfl) (by kernel_rfl) (by kernel_rfl) (by rfl) (by first | assumption | decide +kernel) (by decide +kernel) ⟨rfl, rfl, rfl, rfl, rfl, by decide +kernel⟩ ?hw ?hc
  case hw => w_witness2
  case hc =>
    refine A.walk_G (l := PySem.Challenge.rw_noaslong_k17_refusals_made) (n := 63) (k := 5) (x := "_law_script") rfl (by decide) (by kernel_rfl) ⟨rfl, by decide, by decide⟩ ?F
    intro w mg g h Y G hmg0
    obtain ⟨K, KX, c⟩ := Y
    have hmg : mg ("law" : PySem.Str) = some (.ref g) := by
      have e : (HandSHeadRun.topDef A.R.prog 24).name = ("law" : PySem.Str) := by kernel_rfl
      rw [← e]
      exact hmg0
    obtain ⟨K', fd, sp, KX', hb, hs, hF⟩ := F w mg g h ⟨K, KX, c⟩ G hmg
    exact ⟨K', fd, sp, KX', hb, hs, hF⟩
end

namespace A
open PySem PySem.Spec L2 PyProof.Rows
local macro_rules | `(tactic| walk_at "A.go") => `(tactic| simp only [aSeq, aNext, aSet, aVar, atV_s, onB_b, onI_i, onII_i, onL1_i, onL2_i, it_l, it_t, it_s, it_x, ix_l, ix_t, ix_s, add_i, add_x, eq_i, eq_x, eq_b, is_b, aC, aNil, aCons, aOp, aUn, aTup, aLst, aCB, aNot, aAnd, aOr, aTst, aIfE, aAndV, aOrV, aNotV, aChn, aDrop, aRet, aRetN, aIf, agName, agNil, agCons, agTup, aAsg, aPar, aAug, aFor, aRng1, aRng2, aIter, aLc, aYes,
  aCl, aMt, aMk, aFl, aFst, aNeg, aI2, aI20, aLe, aLt, aGt, aGe, aSub, aMod, aMul, aFdv, aPow, aXor, aShl, aShr, agSub, aoN, aoS, aSl, aRev, aLen, aList, aTupOf, aLRg1, aLRg2, aAbs, aI2N, aMax, aMin, aDm, aAll, aAny, aBM, aApp, aPopAt, aPop, aClear, aRevM, aExt, aRepr, aClD, aLnSt, aIAdd, aBreak, aCont,
  aEnd, startA, List.map_cons, List.map_nil, List.cons_append, List.nil_append, List.length_cons, List.length_nil, List.replicate, List.getElem?_cons_zero, List.getElem?_cons_succ, List.set_cons_zero, List.set_cons_succ, Nat.reduceAdd, Nat.reduceSub, Nat.succ_eq_add_one, Int.reduceAdd, Int.reduceMul,
  reduceIte, Bool.false_eq_true, Bool.not_true, Bool.not_false, ite_true, ite_false])
structure FndIn (n : Nat) (rs : List (List Int)) (f : Nat) (t : Int) (M : Mt) (tr : List Int) : Prop where
  rows : ∀ r ∈ rs, Heap_ n r
  n12 : n ≤ 12
  z : rs.length ≤ 24
  ht : InR rs.length t
  hM : ∀ p ∈ M, InR rs.length p.2
  nd : tr.Nodup
  rg : ∀ s ∈ tr, InR n s
  fuel : n < tr.length + f
  beg : Beg (rowAt rs) tr M t
end A

namespace A
open PySem PySem.Spec L2 PyProof.Rows
local macro_rules | `(tactic| walk_at "A.go") => `(tactic| simp only [aSeq, aNext, aSet, aVar, atV_s, onB_b, onI_i, onII_i, onL1_i, onL2_i, it_l, it_t, it_s, it_x, ix_l, ix_t, ix_s, add_i, add_x, eq_i, eq_x, eq_b, is_b, aC, aNil, aCons, aOp, aUn, aTup, aLst, aCB, aNot, aAnd, aOr, aTst, aIfE, aAndV, aOrV, aNotV, aChn, aDrop, aRet, aRetN, aIf, agName, agNil, agCons, agTup, aAsg, aPar, aAug, aFor, aRng1, aRng2, aIter, aLc, aYes,
  aCl, aMt, aMk, aFl, aFst, aNeg, aI2, aI20, aLe, aLt, aGt, aGe, aSub, aMod, aMul, aFdv, aPow, aXor, aShl, aShr, agSub, aoN, aoS, aSl, aRev, aLen, aList, aTupOf, aLRg1, aLRg2, aAbs, aI2N, aMax, aMin, aDm, aAll, aAny, aBM, aApp, aPopAt, aPop, aClear, aRevM, aExt, aRepr, aClD, aLnSt, aIAdd, aBreak, aCont,
  aEnd, startA, List.map_cons, List.map_nil, List.cons_append, List.nil_append, List.length_cons, List.length_nil, List.replicate, List.getElem?_cons_zero, List.getElem?_cons_succ, List.set_cons_zero, List.set_cons_succ, Nat.reduceAdd, Nat.reduceSub, Nat.succ_eq_add_one, Int.reduceAdd, Int.reduceMul,
  reduceIte, Bool.false_eq_true, Bool.not_true, Bool.not_false, ite_true, ite_false])
local macro_rules | `(tactic| walk_at "A.hop") => `(tactic| try simp only [aMtF, aFmt, aJs, aEqO, aNeO, aReprF, aRevT, aIsiT, aInt, aStrI, aEnum, aZip, aMulL, aCount, aAugS, aSetOf, aSrtSet, aSum, aDNew, aDIn, aDIx, aDPut, aLenD, aListD, aBits, aDsp1, aBool, aSorted, wipeA, aSeq, aNext, aSet, aVar, atV_s, onB_b, onI_i, onII_i, onL1_i, onL2_i, it_l, it_t, it_s, it_x, ix_l, ix_t, ix_s, add_i, add_x, eq_i, eq_x, eq_b, is_b, aC, aNil, aCons, aOp, aUn, aTup, aLst, aCB, aNot, aAnd, aOr, aTst, aIfE, aAndV, aOrV, aNotV, aChn, aDrop, aRet, aRetN, aIf, agName, agNil, agCons, agTup, aAsg, aPar, aAug, aFor, aRng1, aRng2, aIter, aLc, aYes,
  aCl, aMt, aMk, aFl, aFst, aNeg, aI2, aI20, aLe, aLt, aGt, aGe, aSub, aMod, aMul, aFdv, aPow, aXor, aShl, aShr, agSub, aoN, aoS, aSl, aRev, aLen, aList, aTupOf, aLRg1, aLRg2, aAbs, aI2N, aMax, aMin, aDm, aAll, aAny, aBM, aApp, aPopAt, aPop, aClear, aRevM, aExt, aRepr, aClD, aLnSt, aIAdd, aBreak, aCont,
  aEnd, startA, List.map_cons, List.map_nil, List.cons_append, List.nil_append, List.length_cons, List.length_nil, List.replicate, List.getElem?_cons_zero, List.getElem?_cons_succ, List.set_cons_zero, List.set_cons_succ, Nat.reduceAdd, Nat.reduceSub, Nat.succ_eq_add_one, Int.reduceAdd, Int.reduceMul,
  reduceIte, Bool.false_eq_true, Bool.not_true, Bool.not_false, ite_true, ite_false])
/-! ### the lesser defs -/
end A

namespace A
open PySem PySem.Spec L2 PyProof.Rows
local macro_rules | `(tactic| walk_at "A.go") => `(tactic| simp only [aSeq, aNext, aSet, aVar, atV_s, onB_b, onI_i, onII_i, onL1_i, onL2_i, it_l, it_t, it_s, it_x, ix_l, ix_t, ix_s, add_i, add_x, eq_i, eq_x, eq_b, is_b, aC, aNil, aCons, aOp, aUn, aTup, aLst, aCB, aNot, aAnd, aOr, aTst, aIfE, aAndV, aOrV, aNotV, aChn, aDrop, aRet, aRetN, aIf, agName, agNil, agCons, agTup, aAsg, aPar, aAug, aFor, aRng1, aRng2, aIter, aLc, aYes,
  aCl, aMt, aMk, aFl, aFst, aNeg, aI2, aI20, aLe, aLt, aGt, aGe, aSub, aMod, aMul, aFdv, aPow, aXor, aShl, aShr, agSub, aoN, aoS, aSl, aRev, aLen, aList, aTupOf, aLRg1, aLRg2, aAbs, aI2N, aMax, aMin, aDm, aAll, aAny, aBM, aApp, aPopAt, aPop, aClear, aRevM, aExt, aRepr, aClD, aLnSt, aIAdd, aBreak, aCont,
  aEnd, startA, List.map_cons, List.map_nil, List.cons_append, List.nil_append, List.length_cons, List.length_nil, List.replicate, List.getElem?_cons_zero, List.getElem?_cons_succ, List.set_cons_zero, List.set_cons_succ, Nat.reduceAdd, Nat.reduceSub, Nat.succ_eq_add_one, Int.reduceAdd, Int.reduceMul,
  reduceIte, Bool.false_eq_true, Bool.not_true, Bool.not_false, ite_true, ite_false])
local macro_rules | `(tactic| walk_at "A.hop") => `(tactic| try simp only [aMtF, aFmt, aJs, aEqO, aNeO, aReprF, aRevT, aIsiT, aInt, aStrI, aEnum, aZip, aMulL, aCount, aAugS, aSetOf, aSrtSet, aSum, aDNew, aDIn, aDIx, aDPut, aLenD, aListD, aBits, aDsp1, aBool, aSorted, wipeA, aSeq, aNext, aSet, aVar, atV_s, onB_b, onI_i, onII_i, onL1_i, onL2_i, it_l, it_t, it_s, it_x, ix_l, ix_t, ix_s, add_i, add_x, eq_i, eq_x, eq_b, is_b, aC, aNil, aCons, aOp, aUn, aTup, aLst, aCB, aNot, aAnd, aOr, aTst, aIfE, aAndV, aOrV, aNotV, aChn, aDrop, aRet, aRetN, aIf, agName, agNil, agCons, agTup, aAsg, aPar, aAug, aFor, aRng1, aRng2, aIter, aLc, aYes,
  aCl, aMt, aMk, aFl, aFst, aNeg, aI2, aI20, aLe, aLt, aGt, aGe, aSub, aMod, aMul, aFdv, aPow, aXor, aShl, aShr, agSub, aoN, aoS, aSl, aRev, aLen, aList, aTupOf, aLRg1, aLRg2, aAbs, aI2N, aMax, aMin, aDm, aAll, aAny, aBM, aApp, aPopAt, aPop, aClear, aRevM, aExt, aRepr, aClD, aLnSt, aIAdd, aBreak, aCont,
  aEnd, startA, List.map_cons, List.map_nil, List.cons_append, List.nil_append, List.length_cons, List.length_nil, List.replicate, List.getElem?_cons_zero, List.getElem?_cons_succ, List.set_cons_zero, List.set_cons_succ, Nat.reduceAdd, Nat.reduceSub, Nat.succ_eq_add_one, Int.reduceAdd, Int.reduceMul,
  reduceIte, Bool.false_eq_true, Bool.not_true, Bool.not_false, ite_true, ite_false])
/-! ### what the sorts of yards are worth: ties, rows, lots; how they are made -/
/-! #### lots -/
/-! #### made -/
end A

namespace A
open PySem PySem.Spec L2 PyProof.Rows
local macro_rules | `(tactic| walk_at "A.go") => `(tactic| simp only [aSeq, aNext, aSet, aVar, atV_s, onB_b, onI_i, onII_i, onL1_i, onL2_i, it_l, it_t, it_s, it_x, ix_l, ix_t, ix_s, add_i, add_x, eq_i, eq_x, eq_b, is_b, aC, aNil, aCons, aOp, aUn, aTup, aLst, aCB, aNot, aAnd, aOr, aTst, aIfE, aAndV, aOrV, aNotV, aChn, aDrop, aRet, aRetN, aIf, agName, agNil, agCons, agTup, aAsg, aPar, aAug, aFor, aRng1, aRng2, aIter, aLc, aYes,
  aCl, aMt, aMk, aFl, aFst, aNeg, aI2, aI20, aLe, aLt, aGt, aGe, aSub, aMod, aMul, aFdv, aPow, aXor, aShl, aShr, agSub, aoN, aoS, aSl, aRev, aLen, aList, aTupOf, aLRg1, aLRg2, aAbs, aI2N, aMax, aMin, aDm, aAll, aAny, aBM, aApp, aPopAt, aPop, aClear, aRevM, aExt, aRepr, aClD, aLnSt, aIAdd, aBreak, aCont,
  aEnd, startA, List.map_cons, List.map_nil, List.cons_append, List.nil_append, List.length_cons, List.length_nil, List.replicate, List.getElem?_cons_zero, List.getElem?_cons_succ, List.set_cons_zero, List.set_cons_succ, Nat.reduceAdd, Nat.reduceSub, Nat.succ_eq_add_one, Int.reduceAdd, Int.reduceMul,
  reduceIte, Bool.false_eq_true, Bool.not_true, Bool.not_false, ite_true, ite_false])
local macro_rules | `(tactic| walk_at "A.hop") => `(tactic| try simp only [aMtF, aFmt, aJs, aEqO, aNeO, aReprF, aRevT, aIsiT, aInt, aStrI, aEnum, aZip, aMulL, aCount, aAugS, aSetOf, aSrtSet, aSum, aDNew, aDIn, aDIx, aDPut, aLenD, aListD, aBits, aDsp1, aBool, aSorted, wipeA, aSeq, aNext, aSet, aVar, atV_s, onB_b, onI_i, onII_i, onL1_i, onL2_i, it_l, it_t, it_s, it_x, ix_l, ix_t, ix_s, add_i, add_x, eq_i, eq_x, eq_b, is_b, aC, aNil, aCons, aOp, aUn, aTup, aLst, aCB, aNot, aAnd, aOr, aTst, aIfE, aAndV, aOrV, aNotV, aChn, aDrop, aRet, aRetN, aIf, agName, agNil, agCons, agTup, aAsg, aPar, aAug, aFor, aRng1, aRng2, aIter, aLc, aYes,
  aCl, aMt, aMk, aFl, aFst, aNeg, aI2, aI20, aLe, aLt, aGt, aGe, aSub, aMod, aMul, aFdv, aPow, aXor, aShl, aShr, agSub, aoN, aoS, aSl, aRev, aLen, aList, aTupOf, aLRg1, aLRg2, aAbs, aI2N, aMax, aMin, aDm, aAll, aAny, aBM, aApp, aPopAt, aPop, aClear, aRevM, aExt, aRepr, aClD, aLnSt, aIAdd, aBreak, aCont,
  aEnd, startA, List.map_cons, List.map_nil, List.cons_append, List.nil_append, List.length_cons, List.length_nil, List.replicate, List.getElem?_cons_zero, List.getElem?_cons_succ, List.set_cons_zero, List.set_cons_succ, Nat.reduceAdd, Nat.reduceSub, Nat.succ_eq_add_one, Int.reduceAdd, Int.reduceMul,
  reduceIte, Bool.false_eq_true, Bool.not_true, Bool.not_false, ite_true, ite_false])
/-! ### who sits where -/
theorem row_mem {rs : List (List Int)} {t : Int} (h : InR rs.length t) : rowAt rs t ∈ rs := getD_mem h
theorem FndIn.seat {n : Nat} {rs : List (List Int)} {f : Nat} {t : Int} {M : Mt} {tr : List Int} (I : FndIn n rs f t M tr) {t' s : Int} (ht : InR rs.length t') (hs : s ∈ rowAt rs t') : InR n s := (I.rows _ (row_mem ht)).2 s hs
theorem MOk.perm {row : Int → List Int} {H H' : List Int} {M : Mt} (m : MOk row H M) (h : ∀ x ∈ H, x ∈ H') : MOk row H' M := ⟨m.kn, m.vn, fun p hp => ⟨h _ (m.ok p hp).1, (m.ok p hp).2⟩⟩
end A

namespace A
open PySem PySem.Spec L2 PyProof.Rows
local macro_rules | `(tactic| walk_at "A.go") => `(tactic| simp only [aSeq, aNext, aSet, aVar, atV_s, onB_b, onI_i, onII_i, onL1_i, onL2_i, it_l, it_t, it_s, it_x, ix_l, ix_t, ix_s, add_i, add_x, eq_i, eq_x, eq_b, is_b, aC, aNil, aCons, aOp, aUn, aTup, aLst, aCB, aNot, aAnd, aOr, aTst, aIfE, aAndV, aOrV, aNotV, aChn, aDrop, aRet, aRetN, aIf, agName, agNil, agCons, agTup, aAsg, aPar, aAug, aFor, aRng1, aRng2, aIter, aLc, aYes,
  aCl, aMt, aMk, aFl, aFst, aNeg, aI2, aI20, aLe, aLt, aGt, aGe, aSub, aMod, aMul, aFdv, aPow, aXor, aShl, aShr, agSub, aoN, aoS, aSl, aRev, aLen, aList, aTupOf, aLRg1, aLRg2, aAbs, aI2N, aMax, aMin, aDm, aAll, aAny, aBM, aApp, aPopAt, aPop, aClear, aRevM, aExt, aRepr, aClD, aLnSt, aIAdd, aBreak, aCont,
  aEnd, startA, List.map_cons, List.map_nil, List.cons_append, List.nil_append, List.length_cons, List.length_nil, List.replicate, List.getElem?_cons_zero, List.getElem?_cons_succ, List.set_cons_zero, List.set_cons_succ, Nat.reduceAdd, Nat.reduceSub, Nat.succ_eq_add_one, Int.reduceAdd, Int.reduceMul,
  reduceIte, Bool.false_eq_true, Bool.not_true, Bool.not_false, ite_true, ite_false])
local macro_rules | `(tactic| walk_at "A.hop") => `(tactic| try simp only [aMtF, aFmt, aJs, aEqO, aNeO, aReprF, aRevT, aIsiT, aInt, aStrI, aEnum, aZip, aMulL, aCount, aAugS, aSetOf, aSrtSet, aSum, aDNew, aDIn, aDIx, aDPut, aLenD, aListD, aBits, aDsp1, aBool, aSorted, wipeA, aSeq, aNext, aSet, aVar, atV_s, onB_b, onI_i, onII_i, onL1_i, onL2_i, it_l, it_t, it_s, it_x, ix_l, ix_t, ix_s, add_i, add_x, eq_i, eq_x, eq_b, is_b, aC, aNil, aCons, aOp, aUn, aTup, aLst, aCB, aNot, aAnd, aOr, aTst, aIfE, aAndV, aOrV, aNotV, aChn, aDrop, aRet, aRetN, aIf, agName, agNil, agCons, agTup, aAsg, aPar, aAug, aFor, aRng1, aRng2, aIter, aLc, aYes,
  aCl, aMt, aMk, aFl, aFst, aNeg, aI2, aI20, aLe, aLt, aGt, aGe, aSub, aMod, aMul, aFdv, aPow, aXor, aShl, aShr, agSub, aoN, aoS, aSl, aRev, aLen, aList, aTupOf, aLRg1, aLRg2, aAbs, aI2N, aMax, aMin, aDm, aAll, aAny, aBM, aApp, aPopAt, aPop, aClear, aRevM, aExt, aRepr, aClD, aLnSt, aIAdd, aBreak, aCont,
  aEnd, startA, List.map_cons, List.map_nil, List.cons_append, List.nil_append, List.length_cons, List.length_nil, List.replicate, List.getElem?_cons_zero, List.getElem?_cons_succ, List.set_cons_zero, List.set_cons_succ, Nat.reduceAdd, Nat.reduceSub, Nat.succ_eq_add_one, Int.reduceAdd, Int.reduceMul,
  reduceIte, Bool.false_eq_true, Bool.not_true, Bool.not_false, ite_true, ite_false])
/-! ### the laws' own worth -/
def Yd.at_ : Yd → Int → D
  | .ties _ es, i => prD (tieAt es i)
  | .rows rs, i => nD (natAt rs i)
  | .lots _ ls, i => nD (natAt ls i)
  | .seats _ rs, i => iD (rowAt rs i)
end A

namespace A
open PySem PySem.Spec L2 PyProof.Rows
local macro_rules | `(tactic| walk_at "A.go") => `(tactic| simp only [aSeq, aNext, aSet, aVar, atV_s, onB_b, onI_i, onII_i, onL1_i, onL2_i, it_l, it_t, it_s, it_x, ix_l, ix_t, ix_s, add_i, add_x, eq_i, eq_x, eq_b, is_b, aC, aNil, aCons, aOp, aUn, aTup, aLst, aCB, aNot, aAnd, aOr, aTst, aIfE, aAndV, aOrV, aNotV, aChn, aDrop, aRet, aRetN, aIf, agName, agNil, agCons, agTup, aAsg, aPar, aAug, aFor, aRng1, aRng2, aIter, aLc, aYes,
  aCl, aMt, aMk, aFl, aFst, aNeg, aI2, aI20, aLe, aLt, aGt, aGe, aSub, aMod, aMul, aFdv, aPow, aXor, aShl, aShr, agSub, aoN, aoS, aSl, aRev, aLen, aList, aTupOf, aLRg1, aLRg2, aAbs, aI2N, aMax, aMin, aDm, aAll, aAny, aBM, aApp, aPopAt, aPop, aClear, aRevM, aExt, aRepr, aClD, aLnSt, aIAdd, aBreak, aCont,
  aEnd, startA, List.map_cons, List.map_nil, List.cons_append, List.nil_append, List.length_cons, List.length_nil, List.replicate, List.getElem?_cons_zero, List.getElem?_cons_succ, List.set_cons_zero, List.set_cons_succ, Nat.reduceAdd, Nat.reduceSub, Nat.succ_eq_add_one, Int.reduceAdd, Int.reduceMul,
  reduceIte, Bool.false_eq_true, Bool.not_true, Bool.not_false, ite_true, ite_false])
local macro_rules | `(tactic| walk_at "A.hop") => `(tactic| try simp only [aMtF, aFmt, aJs, aEqO, aNeO, aReprF, aRevT, aIsiT, aInt, aStrI, aEnum, aZip, aMulL, aCount, aAugS, aSetOf, aSrtSet, aSum, aDNew, aDIn, aDIx, aDPut, aLenD, aListD, aBits, aDsp1, aBool, aSorted, wipeA, aSeq, aNext, aSet, aVar, atV_s, onB_b, onI_i, onII_i, onL1_i, onL2_i, it_l, it_t, it_s, it_x, ix_l, ix_t, ix_s, add_i, add_x, eq_i, eq_x, eq_b, is_b, aC, aNil, aCons, aOp, aUn, aTup, aLst, aCB, aNot, aAnd, aOr, aTst, aIfE, aAndV, aOrV, aNotV, aChn, aDrop, aRet, aRetN, aIf, agName, agNil, agCons, agTup, aAsg, aPar, aAug, aFor, aRng1, aRng2, aIter, aLc, aYes,
  aCl, aMt, aMk, aFl, aFst, aNeg, aI2, aI20, aLe, aLt, aGt, aGe, aSub, aMod, aMul, aFdv, aPow, aXor, aShl, aShr, agSub, aoN, aoS, aSl, aRev, aLen, aList, aTupOf, aLRg1, aLRg2, aAbs, aI2N, aMax, aMin, aDm, aAll, aAny, aBM, aApp, aPopAt, aPop, aClear, aRevM, aExt, aRepr, aClD, aLnSt, aIAdd, aBreak, aCont,
  aEnd, startA, List.map_cons, List.map_nil, List.cons_append, List.nil_append, List.length_cons, List.length_nil, List.replicate, List.getElem?_cons_zero, List.getElem?_cons_succ, List.set_cons_zero, List.set_cons_succ, Nat.reduceAdd, Nat.reduceSub, Nat.succ_eq_add_one, Int.reduceAdd, Int.reduceMul,
  reduceIte, Bool.false_eq_true, Bool.not_true, Bool.not_false, ite_true, ite_false])
/-! ### drawn yards -/
end A

namespace A
open PySem PySem.Spec L2 PyProof.Rows
local macro_rules | `(tactic| walk_at "A.go") => `(tactic| simp only [aSeq, aNext, aSet, aVar, atV_s, onB_b, onI_i, onII_i, onL1_i, onL2_i, it_l, it_t, it_s, it_x, ix_l, ix_t, ix_s, add_i, add_x, eq_i, eq_x, eq_b, is_b, aC, aNil, aCons, aOp, aUn, aTup, aLst, aCB, aNot, aAnd, aOr, aTst, aIfE, aAndV, aOrV, aNotV, aChn, aDrop, aRet, aRetN, aIf, agName, agNil, agCons, agTup, aAsg, aPar, aAug, aFor, aRng1, aRng2, aIter, aLc, aYes,
  aCl, aMt, aMk, aFl, aFst, aNeg, aI2, aI20, aLe, aLt, aGt, aGe, aSub, aMod, aMul, aFdv, aPow, aXor, aShl, aShr, agSub, aoN, aoS, aSl, aRev, aLen, aList, aTupOf, aLRg1, aLRg2, aAbs, aI2N, aMax, aMin, aDm, aAll, aAny, aBM, aApp, aPopAt, aPop, aClear, aRevM, aExt, aRepr, aClD, aLnSt, aIAdd, aBreak, aCont,
  aEnd, startA, List.map_cons, List.map_nil, List.cons_append, List.nil_append, List.length_cons, List.length_nil, List.replicate, List.getElem?_cons_zero, List.getElem?_cons_succ, List.set_cons_zero, List.set_cons_succ, Nat.reduceAdd, Nat.reduceSub, Nat.succ_eq_add_one, Int.reduceAdd, Int.reduceMul,
  reduceIte, Bool.false_eq_true, Bool.not_true, Bool.not_false, ite_true, ite_false])
local macro_rules | `(tactic| walk_at "A.hop") => `(tactic| try simp only [aMtF, aFmt, aJs, aEqO, aNeO, aReprF, aRevT, aIsiT, aInt, aStrI, aEnum, aZip, aMulL, aCount, aAugS, aSetOf, aSrtSet, aSum, aDNew, aDIn, aDIx, aDPut, aLenD, aListD, aBits, aDsp1, aBool, aSorted, wipeA, aSeq, aNext, aSet, aVar, atV_s, onB_b, onI_i, onII_i, onL1_i, onL2_i, it_l, it_t, it_s, it_x, ix_l, ix_t, ix_s, add_i, add_x, eq_i, eq_x, eq_b, is_b, aC, aNil, aCons, aOp, aUn, aTup, aLst, aCB, aNot, aAnd, aOr, aTst, aIfE, aAndV, aOrV, aNotV, aChn, aDrop, aRet, aRetN, aIf, agName, agNil, agCons, agTup, aAsg, aPar, aAug, aFor, aRng1, aRng2, aIter, aLc, aYes,
  aCl, aMt, aMk, aFl, aFst, aNeg, aI2, aI20, aLe, aLt, aGt, aGe, aSub, aMod, aMul, aFdv, aPow, aXor, aShl, aShr, agSub, aoN, aoS, aSl, aRev, aLen, aList, aTupOf, aLRg1, aLRg2, aAbs, aI2N, aMax, aMin, aDm, aAll, aAny, aBM, aApp, aPopAt, aPop, aClear, aRevM, aExt, aRepr, aClD, aLnSt, aIAdd, aBreak, aCont,
  aEnd, startA, List.map_cons, List.map_nil, List.cons_append, List.nil_append, List.length_cons, List.length_nil, List.replicate, List.getElem?_cons_zero, List.getElem?_cons_succ, List.set_cons_zero, List.set_cons_succ, Nat.reduceAdd, Nat.reduceSub, Nat.succ_eq_add_one, Int.reduceAdd, Int.reduceMul,
  reduceIte, Bool.false_eq_true, Bool.not_true, Bool.not_false, ite_true, ite_false])
end A

namespace A
open PySem PySem.Spec L2 PyProof.Rows
local macro_rules | `(tactic| walk_at "A.go") => `(tactic| simp only [aSeq, aNext, aSet, aVar, atV_s, onB_b, onI_i, onII_i, onL1_i, onL2_i, it_l, it_t, it_s, it_x, ix_l, ix_t, ix_s, add_i, add_x, eq_i, eq_x, eq_b, is_b, aC, aNil, aCons, aOp, aUn, aTup, aLst, aCB, aNot, aAnd, aOr, aTst, aIfE, aAndV, aOrV, aNotV, aChn, aDrop, aRet, aRetN, aIf, agName, agNil, agCons, agTup, aAsg, aPar, aAug, aFor, aRng1, aRng2, aIter, aLc, aYes,
  aCl, aMt, aMk, aFl, aFst, aNeg, aI2, aI20, aLe, aLt, aGt, aGe, aSub, aMod, aMul, aFdv, aPow, aXor, aShl, aShr, agSub, aoN, aoS, aSl, aRev, aLen, aList, aTupOf, aLRg1, aLRg2, aAbs, aI2N, aMax, aMin, aDm, aAll, aAny, aBM, aApp, aPopAt, aPop, aClear, aRevM, aExt, aRepr, aClD, aLnSt, aIAdd, aBreak, aCont,
  aEnd, startA, List.map_cons, List.map_nil, List.cons_append, List.nil_append, List.length_cons, List.length_nil, List.replicate, List.getElem?_cons_zero, List.getElem?_cons_succ, List.set_cons_zero, List.set_cons_succ, Nat.reduceAdd, Nat.reduceSub, Nat.succ_eq_add_one, Int.reduceAdd, Int.reduceMul,
  reduceIte, Bool.false_eq_true, Bool.not_true, Bool.not_false, ite_true, ite_false])
local macro_rules | `(tactic| walk_at "A.hop") => `(tactic| try simp only [aMtF, aFmt, aJs, aEqO, aNeO, aReprF, aRevT, aIsiT, aInt, aStrI, aEnum, aZip, aMulL, aCount, aAugS, aSetOf, aSrtSet, aSum, aDNew, aDIn, aDIx, aDPut, aLenD, aListD, aBits, aDsp1, aBool, aSorted, wipeA, aSeq, aNext, aSet, aVar, atV_s, onB_b, onI_i, onII_i, onL1_i, onL2_i, it_l, it_t, it_s, it_x, ix_l, ix_t, ix_s, add_i, add_x, eq_i, eq_x, eq_b, is_b, aC, aNil, aCons, aOp, aUn, aTup, aLst, aCB, aNot, aAnd, aOr, aTst, aIfE, aAndV, aOrV, aNotV, aChn, aDrop, aRet, aRetN, aIf, agName, agNil, agCons, agTup, aAsg, aPar, aAug, aFor, aRng1, aRng2, aIter, aLc, aYes,
  aCl, aMt, aMk, aFl, aFst, aNeg, aI2, aI20, aLe, aLt, aGt, aGe, aSub, aMod, aMul, aFdv, aPow, aXor, aShl, aShr, agSub, aoN, aoS, aSl, aRev, aLen, aList, aTupOf, aLRg1, aLRg2, aAbs, aI2N, aMax, aMin, aDm, aAll, aAny, aBM, aApp, aPopAt, aPop, aClear, aRevM, aExt, aRepr, aClD, aLnSt, aIAdd, aBreak, aCont,
  aEnd, startA, List.map_cons, List.map_nil, List.cons_append, List.nil_append, List.length_cons, List.length_nil, List.replicate, List.getElem?_cons_zero, List.getElem?_cons_succ, List.set_cons_zero, List.set_cons_succ, Nat.reduceAdd, Nat.reduceSub, Nat.succ_eq_add_one, Int.reduceAdd, Int.reduceMul,
  reduceIte, Bool.false_eq_true, Bool.not_true, Bool.not_false, ite_true, ite_false])
def prP (e : Tie) : PyData := .tuple [.int e.1, .int e.2]
def nP (n : Nat) : PyData := .int n
def iP (l : List Int) : PyData := .list (l.map .int)
def Yd.made : Yd → D
  | .ties n es => .lst [.int n, .lst (es.map prD)]
  | .rows rs => .lst [.lst (rs.map nD)]
  | .lots ts ls => .lst [.lst (ts.map nD), .lst (ls.map nD)]
  | .seats n rs => .lst [.int n, .lst (rs.map iD)]
def Yd.shown : Yd → Str
  | .ties n es => (((("Ties(" : Str) ++ (Str.ofString (toString (n : Int)))) ++ (", " : Str)) ++ (PyData.list (es.map prP)).shown) ++ (")" : Str)
  | .rows rs => (("Rows(" : Str) ++ (PyData.list (rs.map nP)).shown) ++ (")" : Str)
  | .lots ts ls => (((("Lots(" : Str) ++ (PyData.list (ts.map nP)).shown) ++ (", " : Str)) ++ (PyData.list (ls.map nP)).shown) ++ (")" : Str)
  | .seats n rs => (((("Seats(" : Str) ++ (Str.ofString (toString (n : Int)))) ++ (", " : Str)) ++ (PyData.list (rs.map iP)).shown) ++ (")" : Str)
end A

/-! ## worths as ranks -/
namespace A
local macro_rules | `(tactic| walk_at "A.go") => `(tactic| simp only [aSeq, aNext, aSet, aVar, atV_s, onB_b, onI_i, onII_i, onL1_i, onL2_i, it_l, it_t, it_s, it_x, ix_l, ix_t, ix_s, add_i, add_x, eq_i, eq_x, eq_b, is_b, aC, aNil, aCons, aOp, aUn, aTup, aLst, aCB, aNot, aAnd, aOr, aTst, aIfE, aAndV, aOrV, aNotV, aChn, aDrop, aRet, aRetN, aIf, agName, agNil, agCons, agTup, aAsg, aPar, aAug, aFor, aRng1, aRng2, aIter, aLc, aYes,
  aCl, aMt, aMk, aFl, aFst, aNeg, aI2, aI20, aLe, aLt, aGt, aGe, aSub, aMod, aMul, aFdv, aPow, aXor, aShl, aShr, agSub, aoN, aoS, aSl, aRev, aLen, aList, aTupOf, aLRg1, aLRg2, aAbs, aI2N, aMax, aMin, aDm, aAll, aAny, aBM, aApp, aPopAt, aPop, aClear, aRevM, aExt, aRepr, aClD, aLnSt, aIAdd, aBreak, aCont,
  aEnd, startA, List.map_cons, List.map_nil, List.cons_append, List.nil_append, List.length_cons, List.length_nil, List.replicate, List.getElem?_cons_zero, List.getElem?_cons_succ, List.set_cons_zero, List.set_cons_succ, Nat.reduceAdd, Nat.reduceSub, Nat.succ_eq_add_one, Int.reduceAdd, Int.reduceMul,
  reduceIte, Bool.false_eq_true, Bool.not_true, Bool.not_false, ite_true, ite_false])
local macro_rules | `(tactic| walk_at "A.hop") => `(tactic| try simp only [aMtF, aFmt, aJs, aEqO, aNeO, aReprF, aRevT, aIsiT, aInt, aStrI, aEnum, aZip, aMulL, aCount, aAugS, aSetOf, aSrtSet, aSum, aDNew, aDIn, aDIx, aDPut, aLenD, aListD, aBits, aDsp1, aBool, aSorted, wipeA, aSeq, aNext, aSet, aVar, atV_s, onB_b, onI_i, onII_i, onL1_i, onL2_i, it_l, it_t, it_s, it_x, ix_l, ix_t, ix_s, add_i, add_x, eq_i, eq_x, eq_b, is_b, aC, aNil, aCons, aOp, aUn, aTup, aLst, aCB, aNot, aAnd, aOr, aTst, aIfE, aAndV, aOrV, aNotV, aChn, aDrop, aRet, aRetN, aIf, agName, agNil, agCons, agTup, aAsg, aPar, aAug, aFor, aRng1, aRng2, aIter, aLc, aYes,
  aCl, aMt, aMk, aFl, aFst, aNeg, aI2, aI20, aLe, aLt, aGt, aGe, aSub, aMod, aMul, aFdv, aPow, aXor, aShl, aShr, agSub, aoN, aoS, aSl, aRev, aLen, aList, aTupOf, aLRg1, aLRg2, aAbs, aI2N, aMax, aMin, aDm, aAll, aAny, aBM, aApp, aPopAt, aPop, aClear, aRevM, aExt, aRepr, aClD, aLnSt, aIAdd, aBreak, aCont,
  aEnd, startA, List.map_cons, List.map_nil, List.cons_append, List.nil_append, List.length_cons, List.length_nil, List.replicate, List.getElem?_cons_zero, List.getElem?_cons_succ, List.set_cons_zero, List.set_cons_succ, Nat.reduceAdd, Nat.reduceSub, Nat.succ_eq_add_one, Int.reduceAdd, Int.reduceMul,
  reduceIte, Bool.false_eq_true, Bool.not_true, Bool.not_false, ite_true, ite_false])
structure IsRk {α : Type} (ok : α → Prop) (W : List α → Int) (Cl : List α → α → Prop) : Prop where
  nil : W [] = 0
  yes : ∀ l x, (∀ a ∈ l, ok a) → ok x → Cl l x → W (l ++ [x]) = W l
  no : ∀ l x, (∀ a ∈ l, ok a) → ok x → ¬ Cl l x → W (l ++ [x]) = W l + 1
  mono : ∀ l x y, (∀ a ∈ l, ok a) → ok x → ok y → Cl l x → Cl (l ++ [y]) x
  perm : ∀ l m, (∀ a ∈ l, ok a) → l.Perm m → W l = W m
namespace IsRk
variable {α : Type} {ok : α → Prop} {W : List α → Int} {Cl : List α → α → Prop}
theorem oka {l m : List α} (h : ∀ a ∈ l, ok a) (k : ∀ a ∈ m, ok a) : ∀ a ∈ l ++ m, ok a := fun a ha => (List.mem_append.mp ha).elim (h a) (k a)
theorem ok1 {x : α} (h : ok x) : ∀ a ∈ [x], ok a := fun a ha => by rw [List.mem_singleton.mp ha]; exact h
theorem same_iff (R : IsRk ok W Cl) {l : List α} {x : α} (h : ∀ a ∈ l, ok a) (hx : ok x) : W (l ++ [x]) = W l ↔ Cl l x :=
  ⟨fun e => Classical.byContradiction fun n => by have := R.no l x h hx n; omega, R.yes l x h hx⟩
theorem step (R : IsRk ok W Cl) {l : List α} {x : α} (h : ∀ a ∈ l, ok a) (hx : ok x) : W l ≤ W (l ++ [x]) ∧ W (l ++ [x]) ≤ W l + 1 := by
  by_cases c : Cl l x
  · have := R.yes l x h hx c; omega
  · have := R.no l x h hx c; omega
theorem up (R : IsRk ok W Cl) {l : List α} (h : ∀ a ∈ l, ok a) : ∀ {m : List α}, (∀ a ∈ m, ok a) → W l ≤ W (l ++ m) ∧ W (l ++ m) ≤ W l + m.length := by
  intro m
  induction m generalizing l with
  | nil => intro _; rw [List.append_nil]; exact ⟨Int.le_refl _, by simp⟩
  | cons x m ih =>
    intro k
    have hx := k x List.mem_cons_self
    have s := R.step h hx
    have := ih (oka h (ok1 hx)) fun a ha => k a (List.mem_cons_of_mem _ ha)
    rw [List.append_assoc] at this
    rw [List.length_cons]
    show W l ≤ W (l ++ ([x] ++ m)) ∧ W (l ++ ([x] ++ m)) ≤ W l + ((m.length + 1 : Nat) : Int)
    omega
theorem bound (R : IsRk ok W Cl) {l : List α} (h : ∀ a ∈ l, ok a) : 0 ≤ W l ∧ W l ≤ l.length := by
  have := R.up (l := []) (fun _ z => (List.not_mem_nil z).elim) h
  rw [List.nil_append, R.nil] at this
  omega
theorem clos (R : IsRk ok W Cl) {l : List α} {x : α} (h : ∀ a ∈ l, ok a) (hx : ok x) (c : Cl l x) : ∀ {m : List α}, (∀ a ∈ m, ok a) → Cl (l ++ m) x := by
  intro m
  induction m generalizing l with
  | nil => intro _; rw [List.append_nil]; exact c
  | cons y m ih =>
    intro k
    have hy := k y List.mem_cons_self
    have := ih (oka h (ok1 hy)) (R.mono l x y h hx hy c) fun a ha => k a (List.mem_cons_of_mem _ ha)
    rwa [List.append_assoc] at this
/-- what adds nothing to fewer adds nothing to more -/
theorem sub (R : IsRk ok W Cl) {l m : List α} {x : α} (h : ∀ a ∈ l, ok a) (k : ∀ a ∈ m, ok a) (hx : ok x) (e : W (l ++ [x]) = W l) : W (l ++ m ++ [x]) = W (l ++ m) :=
  R.yes _ _ (oka h k) hx (R.clos h hx ((R.same_iff h hx).mp e) k)
theorem perm_last {l1 l2 : List α} {x : α} : (l1 ++ x :: l2).Perm (l1 ++ l2 ++ [x]) := by
  rw [List.append_assoc]
  exact List.Perm.append_left l1 (List.perm_append_comm (l₁ := [x]) (l₂ := l2))
theorem less (R : IsRk ok W Cl) {l1 l2 : List α} {x : α} (h : ∀ a ∈ l1 ++ x :: l2, ok a) : W (l1 ++ l2) ≤ W (l1 ++ x :: l2) ∧ W (l1 ++ x :: l2) ≤ W (l1 ++ l2) + 1 := by
  have h2 : ∀ a ∈ l1 ++ l2, ok a := fun a ha => h a (by rcases List.mem_append.mp ha with z | z; exact List.mem_append_left _ z; exact List.mem_append_right _ (List.mem_cons_of_mem _ z))
  have hx : ok x := h x (List.mem_append_right _ List.mem_cons_self)
  rw [R.perm _ _ h perm_last]
  exact R.step h2 hx
end IsRk
/-! ### lots -/
theorem sum_change {f g : Nat → Nat} {n l : Nat} (hl : l < n) (h : ∀ k, k ≠ l → f k = g k) : ((List.range n).map f).sum + g l = ((List.range n).map g).sum + f l := by
  induction n with
  | zero => omega
  | succ n ih =>
    rw [List.range_succ, List.map_append, List.map_append, List.sum_append_nat, List.sum_append_nat]
    by_cases e : l = n
    · subst e
      have same : (List.range l).map f = (List.range l).map g := List.map_congr_left fun k hk => h k (by have := List.mem_range.mp hk; omega)
      rw [same]
      simp
      omega
    · have := ih (by omega)
      have := h n (Ne.symm e)
      simp
      omega
def ClL (ts ls : List Nat) (l : Nat) : Prop := ts.getD l 0 ≤ ls.count l
theorem rk_lots (ts : List Nat) : IsRk (fun l => l < ts.length) (fun ls => ((worthL ts ls : Nat) : Int)) (ClL ts) := by
  have stp : ∀ ls l, l < ts.length → worthL ts (ls ++ [l]) + min (ls.count l) (ts.getD l 0) = worthL ts ls + min (ls.count l + 1) (ts.getD l 0) := fun ls l hl => by
    unfold worthL
    have := sum_change (f := fun k => min ((ls ++ [l]).count k) (ts.getD k 0)) (g := fun k => min (ls.count k) (ts.getD k 0)) hl fun k hk => by
      show min ((ls ++ [l]).count k) _ = _
      rw [List.count_append, List.count_singleton]
      have : (l == k) = false := by simpa using Ne.symm hk
      rw [this]
      simp
    have e : (ls ++ [l]).count l = ls.count l + 1 := by rw [List.count_append, List.count_singleton]; simp
    rw [e] at this
    exact this
  refine ⟨?_, fun ls l _ hl c => ?_, fun ls l _ hl c => ?_, fun ls l y _ _ _ c => ?_, fun ls ms _ h => ?_⟩
  · show ((worthL ts [] : Nat) : Int) = 0
    unfold worthL
    rw [show (fun k => min (([] : List Nat).count k) (ts.getD k 0)) = fun _ => 0 from funext fun k => by simp, List.map_const']
    simp
  · have := stp ls l hl
    have c' : ts.getD l 0 ≤ ls.count l := c
    show ((worthL ts _ : Nat) : Int) = (worthL ts _ : Nat)
    omega
  · have := stp ls l hl
    have c' : ¬ ts.getD l 0 ≤ ls.count l := c
    show ((worthL ts _ : Nat) : Int) = (worthL ts _ : Nat) + 1
    omega
  · show ts.getD l 0 ≤ (ls ++ [y]).count l
    have c' : ts.getD l 0 ≤ ls.count l := c
    rw [List.count_append]
    omega
  · show ((worthL ts _ : Nat) : Int) = (worthL ts _ : Nat)
    unfold worthL
    rw [show (fun k => min (ls.count k) (ts.getD k 0)) = fun k => min (ms.count k) (ts.getD k 0) from funext fun k => by rw [h.count_eq]]
/-! ### rows -/
theorem rk_rows : IsRk (fun _ : Nat => True) worthR (fun ls x => Spn ls.reverse x) := by
  refine ⟨rfl, fun l x _ _ c => ?_, fun l x _ _ c => ?_, fun l x y _ _ _ c => ?_, fun l m _ h => ?_⟩
  · unfold worthR
    rw [List.reverse_append]
    show ((rk l.reverse + (if Spn l.reverse x then 0 else 1) : Nat) : Int) = _
    rw [if_pos c]
    rfl
  · unfold worthR
    rw [List.reverse_append]
    show ((rk l.reverse + (if Spn l.reverse x then 0 else 1) : Nat) : Int) = _
    rw [if_neg c]
    omega
  · rw [List.reverse_append]
    exact .inl c
  · unfold worthR
    rw [rk_perm (((List.reverse_perm _).trans h).trans (List.reverse_perm _).symm)]
/-! ### ties -/
theorem rk_ties (n : Nat) : IsRk (fun e : Tie => InR n e.1 ∧ InR n e.2) (worthT n) (fun es e => labs es e.1 = labs es e.2) := by
  refine ⟨?_, fun l x h hx c => ?_, fun l x h hx c => ?_, fun l x y _ _ _ c => ?_, fun l m h p => ?_⟩
  · unfold worthT
    rw [show labs [] = fun i => i from rfl, cnt_id]
    omega
  · unfold worthT
    rw [labs_snoc, step_same c]
  · unfold worthT
    rw [labs_snoc]
    have := cnt_union hx.1 hx.2 (good_labs h).rg c
    omega
  · rw [labs_snoc]
    unfold stepLab
    rw [c]
  · unfold worthT
    rw [cnt_perm p h]
/-! ### seats -/
def unT (T U : List Int) : List Int := T ++ U.filter fun s => !decide (s ∈ T)
def inU (T U : List Int) : List Int := T.filter fun s => decide (s ∈ U)
theorem mem_unT {T U : List Int} {x : Int} : x ∈ unT T U ↔ x ∈ T ∨ x ∈ U := by
  unfold unT
  rw [List.mem_append, List.mem_filter]
  by_cases q : x ∈ T <;> simp [q]
theorem mem_inU {T U : List Int} {x : Int} : x ∈ inU T U ↔ x ∈ T ∧ x ∈ U := by
  unfold inU
  rw [List.mem_filter, decide_eq_true_iff]
theorem nd_unT {T U : List Int} (h : T.Nodup) (k : U.Nodup) : (unT T U).Nodup := by
  unfold unT
  rw [List.nodup_append]
  refine ⟨h, k.sublist List.filter_sublist, fun x hx y hy => ?_⟩
  rintro rfl
  have := (List.mem_filter.mp hy).2
  simp [hx] at this
theorem nd_inU {T U : List Int} (h : T.Nodup) : (inU T U).Nodup := h.sublist List.filter_sublist
theorem len_un {T U : List Int} (h : T.Nodup) (k : U.Nodup) : (unT T U).length + (inU T U).length = T.length + U.length := by
  have e : (inU T U).length = (U.filter fun s => decide (s ∈ T)).length := by
    refine Nat.le_antisymm (sub_len (nd_inU h) fun x hx => ?_) (sub_len (k.sublist List.filter_sublist) fun x hx => ?_)
    · obtain ⟨a, b⟩ := mem_inU.mp hx
      exact List.mem_filter.mpr ⟨b, decide_eq_true a⟩
    · obtain ⟨a, b⟩ := List.mem_filter.mp hx
      exact mem_inU.mpr ⟨of_decide_eq_true b, a⟩
  have s := filter_split (fun s => decide (s ∈ T)) U
  rw [e]
  unfold unT
  rw [List.length_append]
  omega
theorem bd_sub {Rs : List (List Int)} {T U : List Int} (h : T.Nodup) (k : U.Nodup) : bd Rs (unT T U) + bd Rs (inU T U) ≤ bd Rs T + bd Rs U := by
  have l := len_un h k
  have main : ((Rs.filter fun r => !inT (unT T U) r).length + (Rs.filter fun r => !inT (inU T U) r).length) ≤ (Rs.filter fun r => !inT T r).length + (Rs.filter fun r => !inT U r).length := by
    induction Rs with
    | nil => exact Nat.le_refl _
    | cons r Rs ih =>
      have f : ∀ (p : List Int → Bool), ((r :: Rs).filter p).length = (Rs.filter p).length + if p r then 1 else 0 := fun p => by
        rw [List.filter_cons]
        split <;> simp_all
      rw [f, f, f, f]
      have a1 : inT T r = true → inT (unT T U) r = true := fun z => inT_iff.mpr fun s hs => mem_unT.mpr (.inl (inT_iff.mp z s hs))
      have a2 : inT U r = true → inT (unT T U) r = true := fun z => inT_iff.mpr fun s hs => mem_unT.mpr (.inr (inT_iff.mp z s hs))
      have a3 : inT T r = true → inT U r = true → inT (inU T U) r = true := fun z w => inT_iff.mpr fun s hs => mem_inU.mpr ⟨inT_iff.mp z s hs, inT_iff.mp w s hs⟩
      cases e1 : inT T r <;> cases e2 : inT U r <;> simp_all <;> (repeat (first | omega | split))
  unfold bd
  omega
theorem bd_snoc {Rs : List (List Int)} {r T : List Int} : bd (Rs ++ [r]) T = bd Rs T + if inT T r then 0 else 1 := by
  rw [bd_perm (List.perm_append_comm (l₁ := Rs) (l₂ := [r]))]
  exact bd_cons
def ClS (Rs : List (List Int)) (r : List Int) : Prop := ∃ T : List Int, T.Nodup ∧ bd Rs T = worthS Rs ∧ inT T r = true
theorem rk_seats : IsRk (fun _ : List Int => True) (fun Rs => ((worthS Rs : Nat) : Int)) ClS := by
  have mono : ∀ Rs r, worthS Rs ≤ worthS (Rs ++ [r]) ∧ worthS (Rs ++ [r]) ≤ worthS Rs + 1 := fun Rs r => by
    obtain ⟨⟨T, h1, h2⟩, h3⟩ := worthS_spec Rs
    obtain ⟨⟨U, k1, k2⟩, k3⟩ := worthS_spec (Rs ++ [r])
    have a := h3 U k1
    have b := k3 T h1
    rw [bd_snoc] at k2 b
    split at k2 <;> split at b <;> omega
  have yes : ∀ Rs r, ClS Rs r → worthS (Rs ++ [r]) = worthS Rs := fun Rs r ⟨T, h1, h2, h3⟩ => by
    have := (worthS_spec (Rs ++ [r])).2 T h1
    rw [bd_snoc, if_pos h3] at this
    have := (mono Rs r).1
    omega
  have no : ∀ Rs r, ¬ ClS Rs r → worthS (Rs ++ [r]) = worthS Rs + 1 := fun Rs r n => by
    obtain ⟨⟨U, k1, k2⟩, _⟩ := worthS_spec (Rs ++ [r])
    have a := (worthS_spec Rs).2 U k1
    have := (mono Rs r).2
    rw [bd_snoc] at k2
    by_cases c : inT U r = true
    · rw [if_pos c] at k2
      have : bd Rs U ≠ worthS Rs := fun z => n ⟨U, k1, z, c⟩
      omega
    · rw [if_neg c] at k2
      omega
  refine ⟨?_, fun l x _ _ c => ?_, fun l x _ _ c => ?_, fun l x y _ _ _ c => ?_, fun l m _ h => ?_⟩
  · show ((worthS [] : Nat) : Int) = 0
    rw [worthS_is (Rs := []) (v := 0) (T := []) List.nodup_nil rfl fun _ _ => Nat.zero_le _]
    rfl
  · show ((worthS _ : Nat) : Int) = (worthS _ : Nat)
    rw [yes l x c]
  · show ((worthS _ : Nat) : Int) = (worthS _ : Nat) + 1
    rw [no l x c]
    rfl
  · obtain ⟨T, h1, h2, h3⟩ := c
    by_cases cy : inT T y = true
    · refine ⟨T, h1, ?_, h3⟩
      have := (worthS_spec (l ++ [y])).2 T h1
      have := (mono l y).1
      rw [bd_snoc, if_pos cy] at *
      omega
    · by_cases d : ClS l y
      · obtain ⟨U, k1, k2, k3⟩ := d
        refine ⟨unT T U, nd_unT h1 k1, ?_, inT_iff.mpr fun s hs => mem_unT.mpr (.inl (inT_iff.mp h3 s hs))⟩
        have hy : inT (unT T U) y = true := inT_iff.mpr fun s hs => mem_unT.mpr (.inr (inT_iff.mp k3 s hs))
        rw [bd_snoc, if_pos hy, yes l y ⟨U, k1, k2, k3⟩]
        have := bd_sub (Rs := l) h1 k1
        have := (worthS_spec l).2 _ (nd_unT h1 k1)
        have := (worthS_spec l).2 _ (nd_inU (U := U) h1)
        omega
      · refine ⟨T, h1, ?_, h3⟩
        rw [bd_snoc, if_neg cy, no l y d]
        omega
  · show ((worthS _ : Nat) : Int) = (worthS _ : Nat)
    rw [worthS_perm h]
/-! ### yards -/
theorem IsRk.map {α β : Type} {ok : α → Prop} {W : List α → Int} {Cl : List α → α → Prop} (R : IsRk ok W Cl) {f : β → α} {ok' : β → Prop} (h : ∀ b, ok' b → ok (f b)) : IsRk ok' (fun l => W (l.map f)) (fun l x => Cl (l.map f) (f x)) := by
  have all : ∀ {l : List β}, (∀ b ∈ l, ok' b) → ∀ a ∈ l.map f, ok a := fun hl a ha => by
    obtain ⟨b, hb, rfl⟩ := List.mem_map.mp ha
    exact h b (hl b hb)
  refine ⟨R.nil, fun l x hl hx c => ?_, fun l x hl hx c => ?_, fun l x y hl hx hy c => ?_, fun l m hl p => R.perm _ _ (all hl) (p.map f)⟩
  · show W ((l ++ [x]).map f) = _
    rw [List.map_append]
    exact R.yes _ _ (all hl) (h x hx) c
  · show W ((l ++ [x]).map f) = _
    rw [List.map_append]
    exact R.no _ _ (all hl) (h x hx) c
  · show Cl ((l ++ [y]).map f) _
    rw [List.map_append]
    exact R.mono _ _ _ (all hl) (h x hx) (h y hy) c
def Yd.Cl : Yd → List Int → Int → Prop
  | .ties _ es, hp, i => labs (hp.map (tieAt es)) (tieAt es i).1 = labs (hp.map (tieAt es)) (tieAt es i).2
  | .rows rs, hp, i => Spn (hp.map (natAt rs)).reverse (natAt rs i)
  | .lots ts ls, hp, i => ClL ts (hp.map (natAt ls)) (natAt ls i)
  | .seats _ rs, hp, i => ClS (hp.map (rowAt rs)) (rowAt rs i)
theorem Yd.rk {u : Yd} (ok : u.Ok) : IsRk (InR u.len) u.worth u.Cl := by
  cases u with
  | ties n es => exact (rk_ties n).map (f := tieAt es) fun i hi => ok.2.2.2 _ (getD_mem (x := (0, 0)) hi)
  | rows rs => exact rk_rows.map (f := natAt rs) fun _ _ => trivial
  | lots ts ls => exact (rk_lots ts).map (f := natAt ls) fun i hi => ok.2.2.2 _ (getD_mem (x := 0) hi)
  | seats n rs => exact rk_seats.map (f := rowAt rs) fun _ _ => trivial
end A

namespace A
open PySem PySem.Spec L2 PyProof.Rows
local macro_rules | `(tactic| walk_at "A.go") => `(tactic| simp only [aSeq, aNext, aSet, aVar, atV_s, onB_b, onI_i, onII_i, onL1_i, onL2_i, it_l, it_t, it_s, it_x, ix_l, ix_t, ix_s, add_i, add_x, eq_i, eq_x, eq_b, is_b, aC, aNil, aCons, aOp, aUn, aTup, aLst, aCB, aNot, aAnd, aOr, aTst, aIfE, aAndV, aOrV, aNotV, aChn, aDrop, aRet, aRetN, aIf, agName, agNil, agCons, agTup, aAsg, aPar, aAug, aFor, aRng1, aRng2, aIter, aLc, aYes,
  aCl, aMt, aMk, aFl, aFst, aNeg, aI2, aI20, aLe, aLt, aGt, aGe, aSub, aMod, aMul, aFdv, aPow, aXor, aShl, aShr, agSub, aoN, aoS, aSl, aRev, aLen, aList, aTupOf, aLRg1, aLRg2, aAbs, aI2N, aMax, aMin, aDm, aAll, aAny, aBM, aApp, aPopAt, aPop, aClear, aRevM, aExt, aRepr, aClD, aLnSt, aIAdd, aBreak, aCont,
  aEnd, startA, List.map_cons, List.map_nil, List.cons_append, List.nil_append, List.length_cons, List.length_nil, List.replicate, List.getElem?_cons_zero, List.getElem?_cons_succ, List.set_cons_zero, List.set_cons_succ, Nat.reduceAdd, Nat.reduceSub, Nat.succ_eq_add_one, Int.reduceAdd, Int.reduceMul,
  reduceIte, Bool.false_eq_true, Bool.not_true, Bool.not_false, ite_true, ite_false])
local macro_rules | `(tactic| walk_at "A.hop") => `(tactic| try simp only [aMtF, aFmt, aJs, aEqO, aNeO, aReprF, aRevT, aIsiT, aInt, aStrI, aEnum, aZip, aMulL, aCount, aAugS, aSetOf, aSrtSet, aSum, aDNew, aDIn, aDIx, aDPut, aLenD, aListD, aBits, aDsp1, aBool, aSorted, wipeA, aSeq, aNext, aSet, aVar, atV_s, onB_b, onI_i, onII_i, onL1_i, onL2_i, it_l, it_t, it_s, it_x, ix_l, ix_t, ix_s, add_i, add_x, eq_i, eq_x, eq_b, is_b, aC, aNil, aCons, aOp, aUn, aTup, aLst, aCB, aNot, aAnd, aOr, aTst, aIfE, aAndV, aOrV, aNotV, aChn, aDrop, aRet, aRetN, aIf, agName, agNil, agCons, agTup, aAsg, aPar, aAug, aFor, aRng1, aRng2, aIter, aLc, aYes,
  aCl, aMt, aMk, aFl, aFst, aNeg, aI2, aI20, aLe, aLt, aGt, aGe, aSub, aMod, aMul, aFdv, aPow, aXor, aShl, aShr, agSub, aoN, aoS, aSl, aRev, aLen, aList, aTupOf, aLRg1, aLRg2, aAbs, aI2N, aMax, aMin, aDm, aAll, aAny, aBM, aApp, aPopAt, aPop, aClear, aRevM, aExt, aRepr, aClD, aLnSt, aIAdd, aBreak, aCont,
  aEnd, startA, List.map_cons, List.map_nil, List.cons_append, List.nil_append, List.length_cons, List.length_nil, List.replicate, List.getElem?_cons_zero, List.getElem?_cons_succ, List.set_cons_zero, List.set_cons_succ, Nat.reduceAdd, Nat.reduceSub, Nat.succ_eq_add_one, Int.reduceAdd, Int.reduceMul,
  reduceIte, Bool.false_eq_true, Bool.not_true, Bool.not_false, ite_true, ite_false])
local macro_rules | `(tactic| walk_at "A.lop") => `(tactic| try simp only [decide_true, decide_false, aMtF, aFmt, aJs, aEqO, aNeO, aReprF, aRevT, aIsiT, aInt, aStrI, aEnum, aZip, aMulL, aCount, aAugS, aSetOf, aSrtSet, aSum, aDNew, aDIn, aDIx, aDPut, aLenD, aListD, aBits, aDsp1, aBool, aSorted, wipeA, aSeq, aNext, aSet, aVar, atV_s, onB_b, onI_i, onII_i, onL1_i, onL2_i, it_l, it_t, it_s, it_x, ix_l, ix_t, ix_s, add_i, add_x, eq_i, eq_x, eq_b, is_b, aC, aNil, aCons, aOp, aUn, aTup, aLst, aCB, aNot, aAnd, aOr, aTst, aIfE, aAndV, aOrV, aNotV, aChn, aDrop, aRet, aRetN, aIf, agName, agNil, agCons, agTup, aAsg, aPar, aAug, aFor, aRng1, aRng2, aIter, aLc, aYes,
  aCl, aMt, aMk, aFl, aFst, aNeg, aI2, aI20, aLe, aLt, aGt, aGe, aSub, aMod, aMul, aFdv, aPow, aXor, aShl, aShr, agSub, aoN, aoS, aSl, aRev, aLen, aList, aTupOf, aLRg1, aLRg2, aAbs, aI2N, aMax, aMin, aDm, aBM, aApp, aPopAt, aPop, aClear, aRevM, aExt, aClD, aLnSt, aIAdd, aBreak, aCont,
  aEnd, startA, List.map_cons, List.map_nil, List.cons_append, List.nil_append, List.length_cons, List.length_nil, List.replicate, List.getElem?_cons_zero, List.getElem?_cons_succ, List.set_cons_zero, List.set_cons_succ, Nat.reduceAdd, Nat.reduceSub, Nat.succ_eq_add_one, Int.reduceAdd, Int.reduceMul,
  reduceIte, Bool.false_eq_true, Bool.not_true, Bool.not_false, ite_true, ite_false])
/-! ### what laws often do -/
theorem rd_bls {S : Sto} {n : Nat} (l : List Bool) : rd S (n + 2) (.lst (l.map D.bl)) = some (.list (l.map PyData.bool)) := by
  show (rdL (rd S (n + 1)) (l.map D.bl)).map PyData.list = _
  rw [rdL_map (f := rd S (n + 1)) (g := D.bl) (h := PyData.bool) fun _ => rfl]
  rfl
/-- two lists of ints are compared -/
theorem eq_ints {S : Sto} {d e : D} {l m : List Int} {neg : Bool} {Q : KD} (hd : asL S d = some (List.map D.int l)) (he : asL S e = some (List.map D.int m)) (q : Q (.bl (if neg then !decide (l = m) else decide (l = m))) S) : aEqD neg d e S Q := by
  have deep : ∃ n p q, n ≤ 60 ∧ rd S n d = some p ∧ rd S n e = some q ∧ Q (.bl (if neg then !PyData.eqv p q else PyData.eqv p q)) S :=
    ⟨2, _, _, by decide, by rw [rd_asL 1 hd]; exact rd_ints (n := 0) l, by rw [rd_asL 1 he]; exact rd_ints (n := 0) m, by rw [eqv_listInts]; exact q⟩
  cases d with
  | lst _ => exact deep
  | own _ => exact deep
  | _ => cases hd
theorem rng0 (m : Nat) : rngD 0 ((m : Int)).toNat = (rng m).map .int := by rw [rngD0]; rfl
/-- [k for k in range(m) if ..] -/
theorem lc_filter {t : AT} {ρ0 : En} {Q : KD} {i m : Nat} {S : Sto} {e : AE} (p : Int → Bool) (he : ∀ (k : Int) (g : D → Sto → Prop), g (.int k) S → e (ρ0.set i (some (.int k))) S g noX)
    (step : ∀ k : Int, InR m k → ∀ g : Bool → Sto → Prop, g (p k) S → t (ρ0.set i (some (.int k))) S g noX) (q : NewL (((rng m).filter p).map D.int) S Q) :
    aLcL (agName i) t e (fun _ => True) ρ0 Q (rngD 0 ((m : Int)).toNat) [] S := by
  rw [rng0]
  refine aLcL_inv (fun j acc S' => S' = S ∧ acc = (((rng m).take j).filter p).map D.int) ?_ ?_ ⟨rfl, rfl⟩
  · rintro j d acc S' g hd ⟨rfl, rfl⟩ hg
    rw [List.getElem?_map] at hd
    obtain ⟨k, hk, rfl⟩ := Option.map_eq_some_iff.mp hd
    have tk : (rng m).take (j + 1) = (rng m).take j ++ [k] := by rw [List.take_add_one, hk]; rfl
    refine ⟨trivial, ?_⟩
    change t (ρ0.set i (some (.int k))) S' _ noX
    refine step k (mem_rngI.mp (List.mem_of_getElem? hk)) _ ?_
    cases c : p k with
    | true =>
      rw [if_pos rfl]
      refine he k _ (hg _ _ ⟨rfl, ?_⟩)
      rw [tk, List.filter_append]
      simp [c]
    | false =>
      rw [if_neg Bool.false_ne_true]
      refine hg _ _ ⟨rfl, ?_⟩
      rw [tk, List.filter_append]
      simp [c]
  · rintro acc S' ⟨rfl, rfl⟩
    rw [List.length_map, List.take_length]
    exact ⟨trivial, q⟩
/-! #### heaps -/
def wo (hp : List Int) (i : Int) : List Int := hp.filter fun k => !decide (k = i)
section
variable {u : Yd} {hp hq : List Int} {i : Int}
end
end A

namespace A
open PySem PySem.Spec L2 PyProof.Rows
local macro_rules | `(tactic| walk_at "A.go") => `(tactic| simp only [aSeq, aNext, aSet, aVar, atV_s, onB_b, onI_i, onII_i, onL1_i, onL2_i, it_l, it_t, it_s, it_x, ix_l, ix_t, ix_s, add_i, add_x, eq_i, eq_x, eq_b, is_b, aC, aNil, aCons, aOp, aUn, aTup, aLst, aCB, aNot, aAnd, aOr, aTst, aIfE, aAndV, aOrV, aNotV, aChn, aDrop, aRet, aRetN, aIf, agName, agNil, agCons, agTup, aAsg, aPar, aAug, aFor, aRng1, aRng2, aIter, aLc, aYes,
  aCl, aMt, aMk, aFl, aFst, aNeg, aI2, aI20, aLe, aLt, aGt, aGe, aSub, aMod, aMul, aFdv, aPow, aXor, aShl, aShr, agSub, aoN, aoS, aSl, aRev, aLen, aList, aTupOf, aLRg1, aLRg2, aAbs, aI2N, aMax, aMin, aDm, aAll, aAny, aBM, aApp, aPopAt, aPop, aClear, aRevM, aExt, aRepr, aClD, aLnSt, aIAdd, aBreak, aCont,
  aEnd, startA, List.map_cons, List.map_nil, List.cons_append, List.nil_append, List.length_cons, List.length_nil, List.replicate, List.getElem?_cons_zero, List.getElem?_cons_succ, List.set_cons_zero, List.set_cons_succ, Nat.reduceAdd, Nat.reduceSub, Nat.succ_eq_add_one, Int.reduceAdd, Int.reduceMul,
  reduceIte, Bool.false_eq_true, Bool.not_true, Bool.not_false, ite_true, ite_false])
local macro_rules | `(tactic| walk_at "A.hop") => `(tactic| try simp only [aMtF, aFmt, aJs, aEqO, aNeO, aReprF, aRevT, aIsiT, aInt, aStrI, aEnum, aZip, aMulL, aCount, aAugS, aSetOf, aSrtSet, aSum, aDNew, aDIn, aDIx, aDPut, aLenD, aListD, aBits, aDsp1, aBool, aSorted, wipeA, aSeq, aNext, aSet, aVar, atV_s, onB_b, onI_i, onII_i, onL1_i, onL2_i, it_l, it_t, it_s, it_x, ix_l, ix_t, ix_s, add_i, add_x, eq_i, eq_x, eq_b, is_b, aC, aNil, aCons, aOp, aUn, aTup, aLst, aCB, aNot, aAnd, aOr, aTst, aIfE, aAndV, aOrV, aNotV, aChn, aDrop, aRet, aRetN, aIf, agName, agNil, agCons, agTup, aAsg, aPar, aAug, aFor, aRng1, aRng2, aIter, aLc, aYes,
  aCl, aMt, aMk, aFl, aFst, aNeg, aI2, aI20, aLe, aLt, aGt, aGe, aSub, aMod, aMul, aFdv, aPow, aXor, aShl, aShr, agSub, aoN, aoS, aSl, aRev, aLen, aList, aTupOf, aLRg1, aLRg2, aAbs, aI2N, aMax, aMin, aDm, aAll, aAny, aBM, aApp, aPopAt, aPop, aClear, aRevM, aExt, aRepr, aClD, aLnSt, aIAdd, aBreak, aCont,
  aEnd, startA, List.map_cons, List.map_nil, List.cons_append, List.nil_append, List.length_cons, List.length_nil, List.replicate, List.getElem?_cons_zero, List.getElem?_cons_succ, List.set_cons_zero, List.set_cons_succ, Nat.reduceAdd, Nat.reduceSub, Nat.succ_eq_add_one, Int.reduceAdd, Int.reduceMul,
  reduceIte, Bool.false_eq_true, Bool.not_true, Bool.not_false, ite_true, ite_false])
local macro_rules | `(tactic| walk_at "A.lop") => `(tactic| try simp only [decide_true, decide_false, aMtF, aFmt, aJs, aEqO, aNeO, aReprF, aRevT, aIsiT, aInt, aStrI, aEnum, aZip, aMulL, aCount, aAugS, aSetOf, aSrtSet, aSum, aDNew, aDIn, aDIx, aDPut, aLenD, aListD, aBits, aDsp1, aBool, aSorted, wipeA, aSeq, aNext, aSet, aVar, atV_s, onB_b, onI_i, onII_i, onL1_i, onL2_i, it_l, it_t, it_s, it_x, ix_l, ix_t, ix_s, add_i, add_x, eq_i, eq_x, eq_b, is_b, aC, aNil, aCons, aOp, aUn, aTup, aLst, aCB, aNot, aAnd, aOr, aTst, aIfE, aAndV, aOrV, aNotV, aChn, aDrop, aRet, aRetN, aIf, agName, agNil, agCons, agTup, aAsg, aPar, aAug, aFor, aRng1, aRng2, aIter, aLc, aYes,
  aCl, aMt, aMk, aFl, aFst, aNeg, aI2, aI20, aLe, aLt, aGt, aGe, aSub, aMod, aMul, aFdv, aPow, aXor, aShl, aShr, agSub, aoN, aoS, aSl, aRev, aLen, aList, aTupOf, aLRg1, aLRg2, aAbs, aI2N, aMax, aMin, aDm, aBM, aApp, aPopAt, aPop, aClear, aRevM, aExt, aClD, aLnSt, aIAdd, aBreak, aCont,
  aEnd, startA, List.map_cons, List.map_nil, List.cons_append, List.nil_append, List.length_cons, List.length_nil, List.replicate, List.getElem?_cons_zero, List.getElem?_cons_succ, List.set_cons_zero, List.set_cons_succ, Nat.reduceAdd, Nat.reduceSub, Nat.succ_eq_add_one, Int.reduceAdd, Int.reduceMul,
  reduceIte, Bool.false_eq_true, Bool.not_true, Bool.not_false, ite_true, ite_false])
/-! ### told, equal, counted, shown -/
/-! #### the arguments, as data that may be compared -/
theorem eqv_maps {α : Type} [DecidableEq α] {f : α → PyData} (h : ∀ a b, PyData.eqv (f a) (f b) = decide (a = b)) : ∀ l m : List α, PyData.eqv (.list (l.map f)) (.list (m.map f)) = decide (l = m)
  | [], [] => rfl
  | [], _ :: _ => rfl
  | _ :: _, [] => rfl
  | a :: l, b :: m => by
    have ih := eqv_maps h l m
    simp only [PyData.eqv] at ih
    simp only [List.map_cons, PyData.eqv, PyData.eqvAll, h a b, ih]
    by_cases e : a = b
    · subst e; simp
    · simp [e]
end A

namespace A
open PySem PySem.Spec L2 PyProof.Rows
local macro_rules | `(tactic| walk_at "A.go") => `(tactic| simp only [aSeq, aNext, aSet, aVar, atV_s, onB_b, onI_i, onII_i, onL1_i, onL2_i, it_l, it_t, it_s, it_x, ix_l, ix_t, ix_s, add_i, add_x, eq_i, eq_x, eq_b, is_b, aC, aNil, aCons, aOp, aUn, aTup, aLst, aCB, aNot, aAnd, aOr, aTst, aIfE, aAndV, aOrV, aNotV, aChn, aDrop, aRet, aRetN, aIf, agName, agNil, agCons, agTup, aAsg, aPar, aAug, aFor, aRng1, aRng2, aIter, aLc, aYes,
  aCl, aMt, aMk, aFl, aFst, aNeg, aI2, aI20, aLe, aLt, aGt, aGe, aSub, aMod, aMul, aFdv, aPow, aXor, aShl, aShr, agSub, aoN, aoS, aSl, aRev, aLen, aList, aTupOf, aLRg1, aLRg2, aAbs, aI2N, aMax, aMin, aDm, aAll, aAny, aBM, aApp, aPopAt, aPop, aClear, aRevM, aExt, aRepr, aClD, aLnSt, aIAdd, aBreak, aCont,
  aEnd, startA, List.map_cons, List.map_nil, List.cons_append, List.nil_append, List.length_cons, List.length_nil, List.replicate, List.getElem?_cons_zero, List.getElem?_cons_succ, List.set_cons_zero, List.set_cons_succ, Nat.reduceAdd, Nat.reduceSub, Nat.succ_eq_add_one, Int.reduceAdd, Int.reduceMul,
  reduceIte, Bool.false_eq_true, Bool.not_true, Bool.not_false, ite_true, ite_false])
local macro_rules | `(tactic| walk_at "A.hop") => `(tactic| try simp only [aMtF, aFmt, aJs, aEqO, aNeO, aReprF, aRevT, aIsiT, aInt, aStrI, aEnum, aZip, aMulL, aCount, aAugS, aSetOf, aSrtSet, aSum, aDNew, aDIn, aDIx, aDPut, aLenD, aListD, aBits, aDsp1, aBool, aSorted, wipeA, aSeq, aNext, aSet, aVar, atV_s, onB_b, onI_i, onII_i, onL1_i, onL2_i, it_l, it_t, it_s, it_x, ix_l, ix_t, ix_s, add_i, add_x, eq_i, eq_x, eq_b, is_b, aC, aNil, aCons, aOp, aUn, aTup, aLst, aCB, aNot, aAnd, aOr, aTst, aIfE, aAndV, aOrV, aNotV, aChn, aDrop, aRet, aRetN, aIf, agName, agNil, agCons, agTup, aAsg, aPar, aAug, aFor, aRng1, aRng2, aIter, aLc, aYes,
  aCl, aMt, aMk, aFl, aFst, aNeg, aI2, aI20, aLe, aLt, aGt, aGe, aSub, aMod, aMul, aFdv, aPow, aXor, aShl, aShr, agSub, aoN, aoS, aSl, aRev, aLen, aList, aTupOf, aLRg1, aLRg2, aAbs, aI2N, aMax, aMin, aDm, aAll, aAny, aBM, aApp, aPopAt, aPop, aClear, aRevM, aExt, aRepr, aClD, aLnSt, aIAdd, aBreak, aCont,
  aEnd, startA, List.map_cons, List.map_nil, List.cons_append, List.nil_append, List.length_cons, List.length_nil, List.replicate, List.getElem?_cons_zero, List.getElem?_cons_succ, List.set_cons_zero, List.set_cons_succ, Nat.reduceAdd, Nat.reduceSub, Nat.succ_eq_add_one, Int.reduceAdd, Int.reduceMul,
  reduceIte, Bool.false_eq_true, Bool.not_true, Bool.not_false, ite_true, ite_false])
local macro_rules | `(tactic| walk_at "A.lop") => `(tactic| try simp only [decide_true, decide_false, aMtF, aFmt, aJs, aEqO, aNeO, aReprF, aRevT, aIsiT, aInt, aStrI, aEnum, aZip, aMulL, aCount, aAugS, aSetOf, aSrtSet, aSum, aDNew, aDIn, aDIx, aDPut, aLenD, aListD, aBits, aDsp1, aBool, aSorted, wipeA, aSeq, aNext, aSet, aVar, atV_s, onB_b, onI_i, onII_i, onL1_i, onL2_i, it_l, it_t, it_s, it_x, ix_l, ix_t, ix_s, add_i, add_x, eq_i, eq_x, eq_b, is_b, aC, aNil, aCons, aOp, aUn, aTup, aLst, aCB, aNot, aAnd, aOr, aTst, aIfE, aAndV, aOrV, aNotV, aChn, aDrop, aRet, aRetN, aIf, agName, agNil, agCons, agTup, aAsg, aPar, aAug, aFor, aRng1, aRng2, aIter, aLc, aYes,
  aCl, aMt, aMk, aFl, aFst, aNeg, aI2, aI20, aLe, aLt, aGt, aGe, aSub, aMod, aMul, aFdv, aPow, aXor, aShl, aShr, agSub, aoN, aoS, aSl, aRev, aLen, aList, aTupOf, aLRg1, aLRg2, aAbs, aI2N, aMax, aMin, aDm, aBM, aApp, aPopAt, aPop, aClear, aRevM, aExt, aClD, aLnSt, aIAdd, aBreak, aCont,
  aEnd, startA, List.map_cons, List.map_nil, List.cons_append, List.nil_append, List.length_cons, List.length_nil, List.replicate, List.getElem?_cons_zero, List.getElem?_cons_succ, List.set_cons_zero, List.set_cons_succ, Nat.reduceAdd, Nat.reduceSub, Nat.succ_eq_add_one, Int.reduceAdd, Int.reduceMul,
  reduceIte, Bool.false_eq_true, Bool.not_true, Bool.not_false, ite_true, ite_false])
/-! ### shown -/
theorem shown_len {p : PyData} (h : p.canLay0 = true) (sm : sml p = true) : p.shown.length ≤ 15 * p.weight + 13 := PyData.shown_le 13 (by decide) p (PyData.leavesShort_of_canLay0 13 p h (sml_show p sm).2)
/-- a short list, within a text -/
structure ShortL (S : Sto) (d : D) (p : PyData) : Prop where
  rd : ∃ n, n ≤ 60 ∧ rd S n d = some p ∧ ∃ l, p = .list l
  sm : sml p = true
  wt : p.weight ≤ 30000
theorem ShortL.len {S : Sto} {d : D} {p : PyData} (h : ShortL S d p) : p.shown.length ≤ 500000 := by
  obtain ⟨n, _, e, _⟩ := h.rd
  have := shown_len (rd_lay n d p e).1 h.sm
  have := h.wt
  omega
end A

namespace A
open PySem PySem.Spec L2 PyProof.Rows
local macro_rules | `(tactic| walk_at "A.go") => `(tactic| simp only [aSeq, aNext, aSet, aVar, atV_s, onB_b, onI_i, onII_i, onL1_i, onL2_i, it_l, it_t, it_s, it_x, ix_l, ix_t, ix_s, add_i, add_x, eq_i, eq_x, eq_b, is_b, aC, aNil, aCons, aOp, aUn, aTup, aLst, aCB, aNot, aAnd, aOr, aTst, aIfE, aAndV, aOrV, aNotV, aChn, aDrop, aRet, aRetN, aIf, agName, agNil, agCons, agTup, aAsg, aPar, aAug, aFor, aRng1, aRng2, aIter, aLc, aYes,
  aCl, aMt, aMk, aFl, aFst, aNeg, aI2, aI20, aLe, aLt, aGt, aGe, aSub, aMod, aMul, aFdv, aPow, aXor, aShl, aShr, agSub, aoN, aoS, aSl, aRev, aLen, aList, aTupOf, aLRg1, aLRg2, aAbs, aI2N, aMax, aMin, aDm, aAll, aAny, aBM, aApp, aPopAt, aPop, aClear, aRevM, aExt, aRepr, aClD, aLnSt, aIAdd, aBreak, aCont,
  aEnd, startA, List.map_cons, List.map_nil, List.cons_append, List.nil_append, List.length_cons, List.length_nil, List.replicate, List.getElem?_cons_zero, List.getElem?_cons_succ, List.set_cons_zero, List.set_cons_succ, Nat.reduceAdd, Nat.reduceSub, Nat.succ_eq_add_one, Int.reduceAdd, Int.reduceMul,
  reduceIte, Bool.false_eq_true, Bool.not_true, Bool.not_false, ite_true, ite_false])
local macro_rules | `(tactic| walk_at "A.hop") => `(tactic| try simp only [aMtF, aFmt, aJs, aEqO, aNeO, aReprF, aRevT, aIsiT, aInt, aStrI, aEnum, aZip, aMulL, aCount, aAugS, aSetOf, aSrtSet, aSum, aDNew, aDIn, aDIx, aDPut, aLenD, aListD, aBits, aDsp1, aBool, aSorted, wipeA, aSeq, aNext, aSet, aVar, atV_s, onB_b, onI_i, onII_i, onL1_i, onL2_i, it_l, it_t, it_s, it_x, ix_l, ix_t, ix_s, add_i, add_x, eq_i, eq_x, eq_b, is_b, aC, aNil, aCons, aOp, aUn, aTup, aLst, aCB, aNot, aAnd, aOr, aTst, aIfE, aAndV, aOrV, aNotV, aChn, aDrop, aRet, aRetN, aIf, agName, agNil, agCons, agTup, aAsg, aPar, aAug, aFor, aRng1, aRng2, aIter, aLc, aYes,
  aCl, aMt, aMk, aFl, aFst, aNeg, aI2, aI20, aLe, aLt, aGt, aGe, aSub, aMod, aMul, aFdv, aPow, aXor, aShl, aShr, agSub, aoN, aoS, aSl, aRev, aLen, aList, aTupOf, aLRg1, aLRg2, aAbs, aI2N, aMax, aMin, aDm, aAll, aAny, aBM, aApp, aPopAt, aPop, aClear, aRevM, aExt, aRepr, aClD, aLnSt, aIAdd, aBreak, aCont,
  aEnd, startA, List.map_cons, List.map_nil, List.cons_append, List.nil_append, List.length_cons, List.length_nil, List.replicate, List.getElem?_cons_zero, List.getElem?_cons_succ, List.set_cons_zero, List.set_cons_succ, Nat.reduceAdd, Nat.reduceSub, Nat.succ_eq_add_one, Int.reduceAdd, Int.reduceMul,
  reduceIte, Bool.false_eq_true, Bool.not_true, Bool.not_false, ite_true, ite_false])
local macro_rules | `(tactic| walk_at "A.lop") => `(tactic| try simp only [decide_true, decide_false, aMtF, aFmt, aJs, aEqO, aNeO, aReprF, aRevT, aIsiT, aInt, aStrI, aEnum, aZip, aMulL, aCount, aAugS, aSetOf, aSrtSet, aSum, aDNew, aDIn, aDIx, aDPut, aLenD, aListD, aBits, aDsp1, aBool, aSorted, wipeA, aSeq, aNext, aSet, aVar, atV_s, onB_b, onI_i, onII_i, onL1_i, onL2_i, it_l, it_t, it_s, it_x, ix_l, ix_t, ix_s, add_i, add_x, eq_i, eq_x, eq_b, is_b, aC, aNil, aCons, aOp, aUn, aTup, aLst, aCB, aNot, aAnd, aOr, aTst, aIfE, aAndV, aOrV, aNotV, aChn, aDrop, aRet, aRetN, aIf, agName, agNil, agCons, agTup, aAsg, aPar, aAug, aFor, aRng1, aRng2, aIter, aLc, aYes,
  aCl, aMt, aMk, aFl, aFst, aNeg, aI2, aI20, aLe, aLt, aGt, aGe, aSub, aMod, aMul, aFdv, aPow, aXor, aShl, aShr, agSub, aoN, aoS, aSl, aRev, aLen, aList, aTupOf, aLRg1, aLRg2, aAbs, aI2N, aMax, aMin, aDm, aBM, aApp, aPopAt, aPop, aClear, aRevM, aExt, aClD, aLnSt, aIAdd, aBreak, aCont,
  aEnd, startA, List.map_cons, List.map_nil, List.cons_append, List.nil_append, List.length_cons, List.length_nil, List.replicate, List.getElem?_cons_zero, List.getElem?_cons_succ, List.set_cons_zero, List.set_cons_succ, Nat.reduceAdd, Nat.reduceSub, Nat.succ_eq_add_one, Int.reduceAdd, Int.reduceMul,
  reduceIte, Bool.false_eq_true, Bool.not_true, Bool.not_false, ite_true, ite_false])
/-! ## boxes: data -/
def trD (ps : List (Int × Bool)) : List (Key × D) := ps.map fun p => (.inl p.1, .bl p.2)
def boxF (y t : Addr) : List (Str × D) := [("own_yard", .own y), ("truths", .own t)]
def Asks (m : Nat) (ps : List (Int × Bool)) : Prop := (ps.map (·.1)).Nodup ∧ ∀ p ∈ ps, InR m p.1
def IsB (K : PySem.W.Frag) (S : Sto) (b y t : Addr) (u : Yd) (ps : List (Int × Bool)) : Prop := S b = some (.ins (He.ga K "Box") (boxF y t)) ∧ S t = some (.dct (trD ps)) ∧ IsY K S y u ∧ Asks u.len ps
def askd (ps : List (Int × Bool)) (i : Int) : Bool := ps.any fun p => decide (p.1 = i)
def yesB (m : Nat) (ps : List (Int × Bool)) : List Int := (rng m).filter fun i => decide ((i, true) ∈ ps)
def unB (m : Nat) (ps : List (Int × Bool)) : List Int := (rng m).filter fun i => !askd ps i
def restB (m : Nat) (ps : List (Int × Bool)) (i : Int) : List Int := (yesB m ps ++ unB m ps).filter fun k => !decide (k = i)
noncomputable def saysB (u : Yd) (ps : List (Int × Bool)) (i : Int) : Bool := decide (u.worth (restB u.len ps i) < u.worth (rng u.len))
section
variable {K : PySem.W.Frag} {S S' : Sto} {b y t : Addr} {u : Yd} {ps : List (Int × Bool)}
theorem IsB.ins (h : IsB K S b y t u ps) : insOf S (.own b) = some (He.ga K "Box", boxF y t) := by
  unfold insOf
  simp only [h.1]
theorem IsB.dct (h : IsB K S b y t u ps) : dctOf S (.own t) = some (trD ps) := dctOf_own h.2.1
theorem IsB.sub (h : IsB K S b y t u ps) (s : Sub S S') : IsB K S' b y t u ps := ⟨s _ _ h.1, s _ _ h.2.1, h.2.2.1.sub s, h.2.2.2⟩
theorem IsB.bt (h : IsB K S b y t u ps) : b ≠ t := by rintro rfl; have := h.2.1; rw [h.1] at this; cases this
theorem IsB.yt (h : IsB K S b y t u ps) : y ≠ t := by rintro rfl; have := h.2.1; rw [h.2.2.1.1] at this; cases this
/-- one more answer -/
theorem IsB.more {i : Int} {a : Bool} (h : IsB K S b y t u ps) (hi : InR u.len i) (n : ∀ p ∈ ps, p.1 ≠ i) : IsB K (put S t (.dct (trD (ps ++ [(i, a)])))) b y t u (ps ++ [(i, a)]) := by
  refine ⟨by rw [put_ne h.bt]; exact h.1, put_same, ⟨by rw [put_ne h.yt]; exact h.2.2.1.1, h.2.2.1.2⟩, ?_, fun p hp => ?_⟩
  · rw [List.map_append, List.nodup_append]
    refine ⟨h.2.2.2.1, by simp, fun a ha c hc => ?_⟩
    rw [List.map_singleton, List.mem_singleton] at hc
    subst hc
    obtain ⟨p, hp, rfl⟩ := List.mem_map.mp ha
    exact n p hp
  · rcases List.mem_append.mp hp with hp | hp
    · exact h.2.2.2.2 p hp
    · rw [List.mem_singleton.mp hp]; exact hi
theorem askd_iff {i : Int} : askd ps i = true ↔ ∃ a, (i, a) ∈ ps := by
  unfold askd
  rw [List.any_eq_true]
  constructor
  · rintro ⟨p, hp, e⟩
    rw [← of_decide_eq_true e]
    exact ⟨p.2, hp⟩
  · rintro ⟨a, h⟩
    exact ⟨_, h, decide_eq_true rfl⟩
end
end A

namespace A
open PySem PySem.Spec L2 PyProof.Rows
local macro_rules | `(tactic| walk_at "A.go") => `(tactic| simp only [aSeq, aNext, aSet, aVar, atV_s, onB_b, onI_i, onII_i, onL1_i, onL2_i, it_l, it_t, it_s, it_x, ix_l, ix_t, ix_s, add_i, add_x, eq_i, eq_x, eq_b, is_b, aC, aNil, aCons, aOp, aUn, aTup, aLst, aCB, aNot, aAnd, aOr, aTst, aIfE, aAndV, aOrV, aNotV, aChn, aDrop, aRet, aRetN, aIf, agName, agNil, agCons, agTup, aAsg, aPar, aAug, aFor, aRng1, aRng2, aIter, aLc, aYes,
  aCl, aMt, aMk, aFl, aFst, aNeg, aI2, aI20, aLe, aLt, aGt, aGe, aSub, aMod, aMul, aFdv, aPow, aXor, aShl, aShr, agSub, aoN, aoS, aSl, aRev, aLen, aList, aTupOf, aLRg1, aLRg2, aAbs, aI2N, aMax, aMin, aDm, aAll, aAny, aBM, aApp, aPopAt, aPop, aClear, aRevM, aExt, aRepr, aClD, aLnSt, aIAdd, aBreak, aCont,
  aEnd, startA, List.map_cons, List.map_nil, List.cons_append, List.nil_append, List.length_cons, List.length_nil, List.replicate, List.getElem?_cons_zero, List.getElem?_cons_succ, List.set_cons_zero, List.set_cons_succ, Nat.reduceAdd, Nat.reduceSub, Nat.succ_eq_add_one, Int.reduceAdd, Int.reduceMul,
  reduceIte, Bool.false_eq_true, Bool.not_true, Bool.not_false, ite_true, ite_false])
local macro_rules | `(tactic| walk_at "A.hop") => `(tactic| try simp only [aMtF, aFmt, aJs, aEqO, aNeO, aReprF, aRevT, aIsiT, aInt, aStrI, aEnum, aZip, aMulL, aCount, aAugS, aSetOf, aSrtSet, aSum, aDNew, aDIn, aDIx, aDPut, aLenD, aListD, aBits, aDsp1, aBool, aSorted, wipeA, aSeq, aNext, aSet, aVar, atV_s, onB_b, onI_i, onII_i, onL1_i, onL2_i, it_l, it_t, it_s, it_x, ix_l, ix_t, ix_s, add_i, add_x, eq_i, eq_x, eq_b, is_b, aC, aNil, aCons, aOp, aUn, aTup, aLst, aCB, aNot, aAnd, aOr, aTst, aIfE, aAndV, aOrV, aNotV, aChn, aDrop, aRet, aRetN, aIf, agName, agNil, agCons, agTup, aAsg, aPar, aAug, aFor, aRng1, aRng2, aIter, aLc, aYes,
  aCl, aMt, aMk, aFl, aFst, aNeg, aI2, aI20, aLe, aLt, aGt, aGe, aSub, aMod, aMul, aFdv, aPow, aXor, aShl, aShr, agSub, aoN, aoS, aSl, aRev, aLen, aList, aTupOf, aLRg1, aLRg2, aAbs, aI2N, aMax, aMin, aDm, aAll, aAny, aBM, aApp, aPopAt, aPop, aClear, aRevM, aExt, aRepr, aClD, aLnSt, aIAdd, aBreak, aCont,
  aEnd, startA, List.map_cons, List.map_nil, List.cons_append, List.nil_append, List.length_cons, List.length_nil, List.replicate, List.getElem?_cons_zero, List.getElem?_cons_succ, List.set_cons_zero, List.set_cons_succ, Nat.reduceAdd, Nat.reduceSub, Nat.succ_eq_add_one, Int.reduceAdd, Int.reduceMul,
  reduceIte, Bool.false_eq_true, Bool.not_true, Bool.not_false, ite_true, ite_false])
local macro_rules | `(tactic| walk_at "A.lop") => `(tactic| try simp only [decide_true, decide_false, aMtF, aFmt, aJs, aEqO, aNeO, aReprF, aRevT, aIsiT, aInt, aStrI, aEnum, aZip, aMulL, aCount, aAugS, aSetOf, aSrtSet, aSum, aDNew, aDIn, aDIx, aDPut, aLenD, aListD, aBits, aDsp1, aBool, aSorted, wipeA, aSeq, aNext, aSet, aVar, atV_s, onB_b, onI_i, onII_i, onL1_i, onL2_i, it_l, it_t, it_s, it_x, ix_l, ix_t, ix_s, add_i, add_x, eq_i, eq_x, eq_b, is_b, aC, aNil, aCons, aOp, aUn, aTup, aLst, aCB, aNot, aAnd, aOr, aTst, aIfE, aAndV, aOrV, aNotV, aChn, aDrop, aRet, aRetN, aIf, agName, agNil, agCons, agTup, aAsg, aPar, aAug, aFor, aRng1, aRng2, aIter, aLc, aYes,
  aCl, aMt, aMk, aFl, aFst, aNeg, aI2, aI20, aLe, aLt, aGt, aGe, aSub, aMod, aMul, aFdv, aPow, aXor, aShl, aShr, agSub, aoN, aoS, aSl, aRev, aLen, aList, aTupOf, aLRg1, aLRg2, aAbs, aI2N, aMax, aMin, aDm, aBM, aApp, aPopAt, aPop, aClear, aRevM, aExt, aClD, aLnSt, aIAdd, aBreak, aCont,
  aEnd, startA, List.map_cons, List.map_nil, List.cons_append, List.nil_append, List.length_cons, List.length_nil, List.replicate, List.getElem?_cons_zero, List.getElem?_cons_succ, List.set_cons_zero, List.set_cons_succ, Nat.reduceAdd, Nat.reduceSub, Nat.succ_eq_add_one, Int.reduceAdd, Int.reduceMul,
  reduceIte, Bool.false_eq_true, Bool.not_true, Bool.not_false, ite_true, ite_false])
end A

namespace A
open PySem PySem.Spec L2 PyProof.Rows
local macro_rules | `(tactic| walk_at "A.go") => `(tactic| simp only [aSeq, aNext, aSet, aVar, atV_s, onB_b, onI_i, onII_i, onL1_i, onL2_i, it_l, it_t, it_s, it_x, ix_l, ix_t, ix_s, add_i, add_x, eq_i, eq_x, eq_b, is_b, aC, aNil, aCons, aOp, aUn, aTup, aLst, aCB, aNot, aAnd, aOr, aTst, aIfE, aAndV, aOrV, aNotV, aChn, aDrop, aRet, aRetN, aIf, agName, agNil, agCons, agTup, aAsg, aPar, aAug, aFor, aRng1, aRng2, aIter, aLc, aYes,
  aCl, aMt, aMk, aFl, aFst, aNeg, aI2, aI20, aLe, aLt, aGt, aGe, aSub, aMod, aMul, aFdv, aPow, aXor, aShl, aShr, agSub, aoN, aoS, aSl, aRev, aLen, aList, aTupOf, aLRg1, aLRg2, aAbs, aI2N, aMax, aMin, aDm, aAll, aAny, aBM, aApp, aPopAt, aPop, aClear, aRevM, aExt, aRepr, aClD, aLnSt, aIAdd, aBreak, aCont,
  aEnd, startA, List.map_cons, List.map_nil, List.cons_append, List.nil_append, List.length_cons, List.length_nil, List.replicate, List.getElem?_cons_zero, List.getElem?_cons_succ, List.set_cons_zero, List.set_cons_succ, Nat.reduceAdd, Nat.reduceSub, Nat.succ_eq_add_one, Int.reduceAdd, Int.reduceMul,
  reduceIte, Bool.false_eq_true, Bool.not_true, Bool.not_false, ite_true, ite_false])
local macro_rules | `(tactic| walk_at "A.hop") => `(tactic| try simp only [aMtF, aFmt, aJs, aEqO, aNeO, aReprF, aRevT, aIsiT, aInt, aStrI, aEnum, aZip, aMulL, aCount, aAugS, aSetOf, aSrtSet, aSum, aDNew, aDIn, aDIx, aDPut, aLenD, aListD, aBits, aDsp1, aBool, aSorted, wipeA, aSeq, aNext, aSet, aVar, atV_s, onB_b, onI_i, onII_i, onL1_i, onL2_i, it_l, it_t, it_s, it_x, ix_l, ix_t, ix_s, add_i, add_x, eq_i, eq_x, eq_b, is_b, aC, aNil, aCons, aOp, aUn, aTup, aLst, aCB, aNot, aAnd, aOr, aTst, aIfE, aAndV, aOrV, aNotV, aChn, aDrop, aRet, aRetN, aIf, agName, agNil, agCons, agTup, aAsg, aPar, aAug, aFor, aRng1, aRng2, aIter, aLc, aYes,
  aCl, aMt, aMk, aFl, aFst, aNeg, aI2, aI20, aLe, aLt, aGt, aGe, aSub, aMod, aMul, aFdv, aPow, aXor, aShl, aShr, agSub, aoN, aoS, aSl, aRev, aLen, aList, aTupOf, aLRg1, aLRg2, aAbs, aI2N, aMax, aMin, aDm, aAll, aAny, aBM, aApp, aPopAt, aPop, aClear, aRevM, aExt, aRepr, aClD, aLnSt, aIAdd, aBreak, aCont,
  aEnd, startA, List.map_cons, List.map_nil, List.cons_append, List.nil_append, List.length_cons, List.length_nil, List.replicate, List.getElem?_cons_zero, List.getElem?_cons_succ, List.set_cons_zero, List.set_cons_succ, Nat.reduceAdd, Nat.reduceSub, Nat.succ_eq_add_one, Int.reduceAdd, Int.reduceMul,
  reduceIte, Bool.false_eq_true, Bool.not_true, Bool.not_false, ite_true, ite_false])
local macro_rules | `(tactic| walk_at "A.lop") => `(tactic| try simp only [decide_true, decide_false, aMtF, aFmt, aJs, aEqO, aNeO, aReprF, aRevT, aIsiT, aInt, aStrI, aEnum, aZip, aMulL, aCount, aAugS, aSetOf, aSrtSet, aSum, aDNew, aDIn, aDIx, aDPut, aLenD, aListD, aBits, aDsp1, aBool, aSorted, wipeA, aSeq, aNext, aSet, aVar, atV_s, onB_b, onI_i, onII_i, onL1_i, onL2_i, it_l, it_t, it_s, it_x, ix_l, ix_t, ix_s, add_i, add_x, eq_i, eq_x, eq_b, is_b, aC, aNil, aCons, aOp, aUn, aTup, aLst, aCB, aNot, aAnd, aOr, aTst, aIfE, aAndV, aOrV, aNotV, aChn, aDrop, aRet, aRetN, aIf, agName, agNil, agCons, agTup, aAsg, aPar, aAug, aFor, aRng1, aRng2, aIter, aLc, aYes,
  aCl, aMt, aMk, aFl, aFst, aNeg, aI2, aI20, aLe, aLt, aGt, aGe, aSub, aMod, aMul, aFdv, aPow, aXor, aShl, aShr, agSub, aoN, aoS, aSl, aRev, aLen, aList, aTupOf, aLRg1, aLRg2, aAbs, aI2N, aMax, aMin, aDm, aBM, aApp, aPopAt, aPop, aClear, aRevM, aExt, aClD, aLnSt, aIAdd, aBreak, aCont,
  aEnd, startA, List.map_cons, List.map_nil, List.cons_append, List.nil_append, List.length_cons, List.length_nil, List.replicate, List.getElem?_cons_zero, List.getElem?_cons_succ, List.set_cons_zero, List.set_cons_succ, Nat.reduceAdd, Nat.reduceSub, Nat.succ_eq_add_one, Int.reduceAdd, Int.reduceMul,
  reduceIte, Bool.false_eq_true, Bool.not_true, Bool.not_false, ite_true, ite_false])
local macro_rules | `(tactic| walk_at "A.lop") => `(tactic| try simp only [aDGet, aListIt, aLcIt, aDictP, aDictD, aRem, decide_true, decide_false, aMtF, aFmt, aJs, aEqO, aNeO, aReprF, aRevT, aIsiT, aInt, aStrI, aEnum, aZip, aMulL, aCount, aAugS, aSetOf, aSrtSet, aSum, aDNew, aDIn, aDIx, aDPut, aLenD, aListD, aBits, aDsp1, aBool, aSorted, wipeA, aSeq, aNext, aSet, aVar, atV_s, onB_b, onI_i, onII_i, onL1_i, onL2_i, it_l, it_t, it_s, it_x, ix_l, ix_t, ix_s, add_i, add_x, eq_i, eq_x, eq_b, is_b, aC, aNil, aCons, aOp, aUn, aTup, aLst, aCB, aNot, aAnd, aOr, aTst, aIfE, aAndV, aOrV, aNotV, aChn, aDrop, aRet, aRetN, aIf, agName, agNil, agCons, agTup, aAsg, aPar, aAug, aFor, aRng1, aRng2, aIter, aLc, aYes,
  aCl, aMt, aMk, aFl, aFst, aNeg, aI2, aI20, aLe, aLt, aGt, aGe, aSub, aMod, aMul, aFdv, aPow, aXor, aShl, aShr, agSub, aoN, aoS, aSl, aRev, aLen, aList, aTupOf, aLRg1, aLRg2, aAbs, aI2N, aMax, aMin, aDm, aBM, aApp, aPopAt, aPop, aClear, aRevM, aExt, aClD, aLnSt, aIAdd, aBreak, aCont,
  aEnd, startA, List.map_cons, List.map_nil, List.cons_append, List.nil_append, List.length_cons, List.length_nil, List.replicate, List.getElem?_cons_zero, List.getElem?_cons_succ, List.set_cons_zero, List.set_cons_succ, Nat.reduceAdd, Nat.reduceSub, Nat.succ_eq_add_one, Int.reduceAdd, Int.reduceMul,
  reduceIte, Bool.false_eq_true, Bool.not_true, Bool.not_false, ite_true, ite_false])
theorem del_ne {S : Sto} {a b : Addr} (h : b ≠ a) : delS S a b = S b := if_neg h
theorem del_same {S : Sto} {a : Addr} : delS S a a = none := if_pos rfl
theorem val_of : ∀ {ps : List (Int × Bool)} {i : Int} {a : Bool}, (ps.map (·.1)).Nodup → (i, a) ∈ ps → (ps.find? fun p => decide (p.1 = i)).map (fun p => D.bl p.2) = some (.bl a)
  | p :: ps, i, a, nd, h => by
    rw [List.map_cons, List.nodup_cons] at nd
    rw [List.find?_cons]
    rcases List.mem_cons.mp h with e | h
    · rw [← e, decide_eq_true rfl]
      rfl
    · rw [decide_eq_false fun e => nd.1 (by rw [e]; exact List.mem_map.mpr ⟨_, h, rfl⟩)]
      exact val_of nd.2 h
theorem rest_heap {m : Nat} {ps : List (Int × Bool)} {i : Int} : Heap_ m (restB m ps i) := by
  unfold restB
  refine ⟨?_, fun k hk => ?_⟩
  · refine List.Pairwise.filter _ ?_
    show List.Nodup _
    rw [List.nodup_append]
    refine ⟨rng_nodup.filter _, rng_nodup.filter _, fun a ha b hb => ?_⟩
    rintro rfl
    unfold yesB at ha
    unfold unB at hb
    have h1 := of_decide_eq_true (List.mem_filter.mp ha).2
    have h2 := (List.mem_filter.mp hb).2
    rw [askd_iff.mpr ⟨true, h1⟩] at h2
    cases h2
  · have hk := (List.mem_filter.mp hk).1
    rcases List.mem_append.mp hk with hk | hk
    · exact mem_rngI.mp (List.mem_filter.mp hk).1
    · exact mem_rngI.mp (List.mem_filter.mp hk).1
end A

namespace A
open PySem PySem.Spec L2 PyProof.Rows
local macro_rules | `(tactic| walk_at "A.go") => `(tactic| simp only [aSeq, aNext, aSet, aVar, atV_s, onB_b, onI_i, onII_i, onL1_i, onL2_i, it_l, it_t, it_s, it_x, ix_l, ix_t, ix_s, add_i, add_x, eq_i, eq_x, eq_b, is_b, aC, aNil, aCons, aOp, aUn, aTup, aLst, aCB, aNot, aAnd, aOr, aTst, aIfE, aAndV, aOrV, aNotV, aChn, aDrop, aRet, aRetN, aIf, agName, agNil, agCons, agTup, aAsg, aPar, aAug, aFor, aRng1, aRng2, aIter, aLc, aYes,
  aCl, aMt, aMk, aFl, aFst, aNeg, aI2, aI20, aLe, aLt, aGt, aGe, aSub, aMod, aMul, aFdv, aPow, aXor, aShl, aShr, agSub, aoN, aoS, aSl, aRev, aLen, aList, aTupOf, aLRg1, aLRg2, aAbs, aI2N, aMax, aMin, aDm, aAll, aAny, aBM, aApp, aPopAt, aPop, aClear, aRevM, aExt, aRepr, aClD, aLnSt, aIAdd, aBreak, aCont,
  aEnd, startA, List.map_cons, List.map_nil, List.cons_append, List.nil_append, List.length_cons, List.length_nil, List.replicate, List.getElem?_cons_zero, List.getElem?_cons_succ, List.set_cons_zero, List.set_cons_succ, Nat.reduceAdd, Nat.reduceSub, Nat.succ_eq_add_one, Int.reduceAdd, Int.reduceMul,
  reduceIte, Bool.false_eq_true, Bool.not_true, Bool.not_false, ite_true, ite_false])
local macro_rules | `(tactic| walk_at "A.hop") => `(tactic| try simp only [aMtF, aFmt, aJs, aEqO, aNeO, aReprF, aRevT, aIsiT, aInt, aStrI, aEnum, aZip, aMulL, aCount, aAugS, aSetOf, aSrtSet, aSum, aDNew, aDIn, aDIx, aDPut, aLenD, aListD, aBits, aDsp1, aBool, aSorted, wipeA, aSeq, aNext, aSet, aVar, atV_s, onB_b, onI_i, onII_i, onL1_i, onL2_i, it_l, it_t, it_s, it_x, ix_l, ix_t, ix_s, add_i, add_x, eq_i, eq_x, eq_b, is_b, aC, aNil, aCons, aOp, aUn, aTup, aLst, aCB, aNot, aAnd, aOr, aTst, aIfE, aAndV, aOrV, aNotV, aChn, aDrop, aRet, aRetN, aIf, agName, agNil, agCons, agTup, aAsg, aPar, aAug, aFor, aRng1, aRng2, aIter, aLc, aYes,
  aCl, aMt, aMk, aFl, aFst, aNeg, aI2, aI20, aLe, aLt, aGt, aGe, aSub, aMod, aMul, aFdv, aPow, aXor, aShl, aShr, agSub, aoN, aoS, aSl, aRev, aLen, aList, aTupOf, aLRg1, aLRg2, aAbs, aI2N, aMax, aMin, aDm, aAll, aAny, aBM, aApp, aPopAt, aPop, aClear, aRevM, aExt, aRepr, aClD, aLnSt, aIAdd, aBreak, aCont,
  aEnd, startA, List.map_cons, List.map_nil, List.cons_append, List.nil_append, List.length_cons, List.length_nil, List.replicate, List.getElem?_cons_zero, List.getElem?_cons_succ, List.set_cons_zero, List.set_cons_succ, Nat.reduceAdd, Nat.reduceSub, Nat.succ_eq_add_one, Int.reduceAdd, Int.reduceMul,
  reduceIte, Bool.false_eq_true, Bool.not_true, Bool.not_false, ite_true, ite_false])
local macro_rules | `(tactic| walk_at "A.lop") => `(tactic| try simp only [decide_true, decide_false, aMtF, aFmt, aJs, aEqO, aNeO, aReprF, aRevT, aIsiT, aInt, aStrI, aEnum, aZip, aMulL, aCount, aAugS, aSetOf, aSrtSet, aSum, aDNew, aDIn, aDIx, aDPut, aLenD, aListD, aBits, aDsp1, aBool, aSorted, wipeA, aSeq, aNext, aSet, aVar, atV_s, onB_b, onI_i, onII_i, onL1_i, onL2_i, it_l, it_t, it_s, it_x, ix_l, ix_t, ix_s, add_i, add_x, eq_i, eq_x, eq_b, is_b, aC, aNil, aCons, aOp, aUn, aTup, aLst, aCB, aNot, aAnd, aOr, aTst, aIfE, aAndV, aOrV, aNotV, aChn, aDrop, aRet, aRetN, aIf, agName, agNil, agCons, agTup, aAsg, aPar, aAug, aFor, aRng1, aRng2, aIter, aLc, aYes,
  aCl, aMt, aMk, aFl, aFst, aNeg, aI2, aI20, aLe, aLt, aGt, aGe, aSub, aMod, aMul, aFdv, aPow, aXor, aShl, aShr, agSub, aoN, aoS, aSl, aRev, aLen, aList, aTupOf, aLRg1, aLRg2, aAbs, aI2N, aMax, aMin, aDm, aBM, aApp, aPopAt, aPop, aClear, aRevM, aExt, aClD, aLnSt, aIAdd, aBreak, aCont,
  aEnd, startA, List.map_cons, List.map_nil, List.cons_append, List.nil_append, List.length_cons, List.length_nil, List.replicate, List.getElem?_cons_zero, List.getElem?_cons_succ, List.set_cons_zero, List.set_cons_succ, Nat.reduceAdd, Nat.reduceSub, Nat.succ_eq_add_one, Int.reduceAdd, Int.reduceMul,
  reduceIte, Bool.false_eq_true, Bool.not_true, Bool.not_false, ite_true, ite_false])
end A

/-! ## what is in the one and not in the other, in both -/
namespace A
open PySem PySem.Spec L2 PyProof.Rows
local macro_rules | `(tactic| walk_at "A.go") => `(tactic| simp only [aSeq, aNext, aSet, aVar, atV_s, onB_b, onI_i, onII_i, onL1_i, onL2_i, it_l, it_t, it_s, it_x, ix_l, ix_t, ix_s, add_i, add_x, eq_i, eq_x, eq_b, is_b, aC, aNil, aCons, aOp, aUn, aTup, aLst, aCB, aNot, aAnd, aOr, aTst, aIfE, aAndV, aOrV, aNotV, aChn, aDrop, aRet, aRetN, aIf, agName, agNil, agCons, agTup, aAsg, aPar, aAug, aFor, aRng1, aRng2, aIter, aLc, aYes,
  aCl, aMt, aMk, aFl, aFst, aNeg, aI2, aI20, aLe, aLt, aGt, aGe, aSub, aMod, aMul, aFdv, aPow, aXor, aShl, aShr, agSub, aoN, aoS, aSl, aRev, aLen, aList, aTupOf, aLRg1, aLRg2, aAbs, aI2N, aMax, aMin, aDm, aAll, aAny, aBM, aApp, aPopAt, aPop, aClear, aRevM, aExt, aRepr, aClD, aLnSt, aIAdd, aBreak, aCont,
  aEnd, startA, List.map_cons, List.map_nil, List.cons_append, List.nil_append, List.length_cons, List.length_nil, List.replicate, List.getElem?_cons_zero, List.getElem?_cons_succ, List.set_cons_zero, List.set_cons_succ, Nat.reduceAdd, Nat.reduceSub, Nat.succ_eq_add_one, Int.reduceAdd, Int.reduceMul,
  reduceIte, Bool.false_eq_true, Bool.not_true, Bool.not_false, ite_true, ite_false])
local macro_rules | `(tactic| walk_at "A.hop") => `(tactic| try simp only [aMtF, aFmt, aJs, aEqO, aNeO, aReprF, aRevT, aIsiT, aInt, aStrI, aEnum, aZip, aMulL, aCount, aAugS, aSetOf, aSrtSet, aSum, aDNew, aDIn, aDIx, aDPut, aLenD, aListD, aBits, aDsp1, aBool, aSorted, wipeA, aSeq, aNext, aSet, aVar, atV_s, onB_b, onI_i, onII_i, onL1_i, onL2_i, it_l, it_t, it_s, it_x, ix_l, ix_t, ix_s, add_i, add_x, eq_i, eq_x, eq_b, is_b, aC, aNil, aCons, aOp, aUn, aTup, aLst, aCB, aNot, aAnd, aOr, aTst, aIfE, aAndV, aOrV, aNotV, aChn, aDrop, aRet, aRetN, aIf, agName, agNil, agCons, agTup, aAsg, aPar, aAug, aFor, aRng1, aRng2, aIter, aLc, aYes,
  aCl, aMt, aMk, aFl, aFst, aNeg, aI2, aI20, aLe, aLt, aGt, aGe, aSub, aMod, aMul, aFdv, aPow, aXor, aShl, aShr, agSub, aoN, aoS, aSl, aRev, aLen, aList, aTupOf, aLRg1, aLRg2, aAbs, aI2N, aMax, aMin, aDm, aAll, aAny, aBM, aApp, aPopAt, aPop, aClear, aRevM, aExt, aRepr, aClD, aLnSt, aIAdd, aBreak, aCont,
  aEnd, startA, List.map_cons, List.map_nil, List.cons_append, List.nil_append, List.length_cons, List.length_nil, List.replicate, List.getElem?_cons_zero, List.getElem?_cons_succ, List.set_cons_zero, List.set_cons_succ, Nat.reduceAdd, Nat.reduceSub, Nat.succ_eq_add_one, Int.reduceAdd, Int.reduceMul,
  reduceIte, Bool.false_eq_true, Bool.not_true, Bool.not_false, ite_true, ite_false])
local macro_rules | `(tactic| walk_at "A.lop") => `(tactic| try simp only [decide_true, decide_false, aMtF, aFmt, aJs, aEqO, aNeO, aReprF, aRevT, aIsiT, aInt, aStrI, aEnum, aZip, aMulL, aCount, aAugS, aSetOf, aSrtSet, aSum, aDNew, aDIn, aDIx, aDPut, aLenD, aListD, aBits, aDsp1, aBool, aSorted, wipeA, aSeq, aNext, aSet, aVar, atV_s, onB_b, onI_i, onII_i, onL1_i, onL2_i, it_l, it_t, it_s, it_x, ix_l, ix_t, ix_s, add_i, add_x, eq_i, eq_x, eq_b, is_b, aC, aNil, aCons, aOp, aUn, aTup, aLst, aCB, aNot, aAnd, aOr, aTst, aIfE, aAndV, aOrV, aNotV, aChn, aDrop, aRet, aRetN, aIf, agName, agNil, agCons, agTup, aAsg, aPar, aAug, aFor, aRng1, aRng2, aIter, aLc, aYes,
  aCl, aMt, aMk, aFl, aFst, aNeg, aI2, aI20, aLe, aLt, aGt, aGe, aSub, aMod, aMul, aFdv, aPow, aXor, aShl, aShr, agSub, aoN, aoS, aSl, aRev, aLen, aList, aTupOf, aLRg1, aLRg2, aAbs, aI2N, aMax, aMin, aDm, aBM, aApp, aPopAt, aPop, aClear, aRevM, aExt, aClD, aLnSt, aIAdd, aBreak, aCont,
  aEnd, startA, List.map_cons, List.map_nil, List.cons_append, List.nil_append, List.length_cons, List.length_nil, List.replicate, List.getElem?_cons_zero, List.getElem?_cons_succ, List.set_cons_zero, List.set_cons_succ, Nat.reduceAdd, Nat.reduceSub, Nat.succ_eq_add_one, Int.reduceAdd, Int.reduceMul,
  reduceIte, Bool.false_eq_true, Bool.not_true, Bool.not_false, ite_true, ite_false])
end A

/-! ## tools of the plain laws -/
namespace A
open PySem PySem.Spec L2 PyProof.Rows
local macro_rules | `(tactic| walk_at "A.go") => `(tactic| simp only [aSeq, aNext, aSet, aVar, atV_s, onB_b, onI_i, onII_i, onL1_i, onL2_i, it_l, it_t, it_s, it_x, ix_l, ix_t, ix_s, add_i, add_x, eq_i, eq_x, eq_b, is_b, aC, aNil, aCons, aOp, aUn, aTup, aLst, aCB, aNot, aAnd, aOr, aTst, aIfE, aAndV, aOrV, aNotV, aChn, aDrop, aRet, aRetN, aIf, agName, agNil, agCons, agTup, aAsg, aPar, aAug, aFor, aRng1, aRng2, aIter, aLc, aYes,
  aCl, aMt, aMk, aFl, aFst, aNeg, aI2, aI20, aLe, aLt, aGt, aGe, aSub, aMod, aMul, aFdv, aPow, aXor, aShl, aShr, agSub, aoN, aoS, aSl, aRev, aLen, aList, aTupOf, aLRg1, aLRg2, aAbs, aI2N, aMax, aMin, aDm, aAll, aAny, aBM, aApp, aPopAt, aPop, aClear, aRevM, aExt, aRepr, aClD, aLnSt, aIAdd, aBreak, aCont,
  aEnd, startA, List.map_cons, List.map_nil, List.cons_append, List.nil_append, List.length_cons, List.length_nil, List.replicate, List.getElem?_cons_zero, List.getElem?_cons_succ, List.set_cons_zero, List.set_cons_succ, Nat.reduceAdd, Nat.reduceSub, Nat.succ_eq_add_one, Int.reduceAdd, Int.reduceMul,
  reduceIte, Bool.false_eq_true, Bool.not_true, Bool.not_false, ite_true, ite_false])
local macro_rules | `(tactic| walk_at "A.hop") => `(tactic| try simp only [aMtF, aFmt, aJs, aEqO, aNeO, aReprF, aRevT, aIsiT, aInt, aStrI, aEnum, aZip, aMulL, aCount, aAugS, aSetOf, aSrtSet, aSum, aDNew, aDIn, aDIx, aDPut, aLenD, aListD, aBits, aDsp1, aBool, aSorted, wipeA, aSeq, aNext, aSet, aVar, atV_s, onB_b, onI_i, onII_i, onL1_i, onL2_i, it_l, it_t, it_s, it_x, ix_l, ix_t, ix_s, add_i, add_x, eq_i, eq_x, eq_b, is_b, aC, aNil, aCons, aOp, aUn, aTup, aLst, aCB, aNot, aAnd, aOr, aTst, aIfE, aAndV, aOrV, aNotV, aChn, aDrop, aRet, aRetN, aIf, agName, agNil, agCons, agTup, aAsg, aPar, aAug, aFor, aRng1, aRng2, aIter, aLc, aYes,
  aCl, aMt, aMk, aFl, aFst, aNeg, aI2, aI20, aLe, aLt, aGt, aGe, aSub, aMod, aMul, aFdv, aPow, aXor, aShl, aShr, agSub, aoN, aoS, aSl, aRev, aLen, aList, aTupOf, aLRg1, aLRg2, aAbs, aI2N, aMax, aMin, aDm, aAll, aAny, aBM, aApp, aPopAt, aPop, aClear, aRevM, aExt, aRepr, aClD, aLnSt, aIAdd, aBreak, aCont,
  aEnd, startA, List.map_cons, List.map_nil, List.cons_append, List.nil_append, List.length_cons, List.length_nil, List.replicate, List.getElem?_cons_zero, List.getElem?_cons_succ, List.set_cons_zero, List.set_cons_succ, Nat.reduceAdd, Nat.reduceSub, Nat.succ_eq_add_one, Int.reduceAdd, Int.reduceMul,
  reduceIte, Bool.false_eq_true, Bool.not_true, Bool.not_false, ite_true, ite_false])
local macro_rules | `(tactic| walk_at "A.lop") => `(tactic| try simp only [decide_true, decide_false, aMtF, aFmt, aJs, aEqO, aNeO, aReprF, aRevT, aIsiT, aInt, aStrI, aEnum, aZip, aMulL, aCount, aAugS, aSetOf, aSrtSet, aSum, aDNew, aDIn, aDIx, aDPut, aLenD, aListD, aBits, aDsp1, aBool, aSorted, wipeA, aSeq, aNext, aSet, aVar, atV_s, onB_b, onI_i, onII_i, onL1_i, onL2_i, it_l, it_t, it_s, it_x, ix_l, ix_t, ix_s, add_i, add_x, eq_i, eq_x, eq_b, is_b, aC, aNil, aCons, aOp, aUn, aTup, aLst, aCB, aNot, aAnd, aOr, aTst, aIfE, aAndV, aOrV, aNotV, aChn, aDrop, aRet, aRetN, aIf, agName, agNil, agCons, agTup, aAsg, aPar, aAug, aFor, aRng1, aRng2, aIter, aLc, aYes,
  aCl, aMt, aMk, aFl, aFst, aNeg, aI2, aI20, aLe, aLt, aGt, aGe, aSub, aMod, aMul, aFdv, aPow, aXor, aShl, aShr, agSub, aoN, aoS, aSl, aRev, aLen, aList, aTupOf, aLRg1, aLRg2, aAbs, aI2N, aMax, aMin, aDm, aBM, aApp, aPopAt, aPop, aClear, aRevM, aExt, aClD, aLnSt, aIAdd, aBreak, aCont,
  aEnd, startA, List.map_cons, List.map_nil, List.cons_append, List.nil_append, List.length_cons, List.length_nil, List.replicate, List.getElem?_cons_zero, List.getElem?_cons_succ, List.set_cons_zero, List.set_cons_succ, Nat.reduceAdd, Nat.reduceSub, Nat.succ_eq_add_one, Int.reduceAdd, Int.reduceMul,
  reduceIte, Bool.false_eq_true, Bool.not_true, Bool.not_false, ite_true, ite_false])
/-! ### worths of two heaps -/
section
variable {α : Type} {ok : α → Prop} {W : List α → Int} {Cl : List α → α → Prop}
end
theorem Yd.mono {u : Yd} (ok : u.Ok) {a b : List Int} (ha : Heap_ u.len a) (hb : Heap_ u.len b) (sb : ∀ k ∈ a, k ∈ b) : u.worth a ≤ u.worth b ∧ u.worth b + a.length ≤ u.worth a + b.length := by
  have hfb : ∀ x ∈ b.filter fun k => !decide (k ∈ a), InR u.len x := fun x hx => hb.2 x (List.mem_filter.mp hx).1
  have nda : (a ++ b.filter fun k => !decide (k ∈ a)).Nodup := List.nodup_append.mpr ⟨ha.1, hb.1.filter _, fun x hx y hy e => by
    subst e
    have h1 := (List.mem_filter.mp hy).2
    rw [decide_eq_true hx] at h1
    cases h1⟩
  have pb : (a ++ b.filter fun k => !decide (k ∈ a)).Perm b := perm_of nda hb.1 fun k => by
    rw [List.mem_append, List.mem_filter]
    by_cases h : k ∈ a
    · simp [h, sb k h]
    · simp [h]
  have z := (Yd.rk ok).up ha.2 hfb
  rw [Yd.worth_perm ok (IsRk.oka ha.2 hfb) pb] at z
  have l := pb.length_eq
  rw [List.length_append] at l
  omega
theorem heap_fl {n : Nat} {p : Int → Bool} : Heap_ n ((rng n).filter p) := ⟨rng_nodup.filter p, fun i hi => mem_rngI.mp (List.mem_filter.mp hi).1⟩
theorem heap_rng {n : Nat} : Heap_ n (rng n) := ⟨rng_nodup, fun i hi => mem_rngI.mp hi⟩
/-! ### lists of any data compared with the empty one -/
end A

/-! ## worths of sets of things: rings, exchange -/
namespace A
open PySem PySem.Spec L2 PyProof.Rows
local macro_rules | `(tactic| walk_at "A.go") => `(tactic| simp only [aSeq, aNext, aSet, aVar, atV_s, onB_b, onI_i, onII_i, onL1_i, onL2_i, it_l, it_t, it_s, it_x, ix_l, ix_t, ix_s, add_i, add_x, eq_i, eq_x, eq_b, is_b, aC, aNil, aCons, aOp, aUn, aTup, aLst, aCB, aNot, aAnd, aOr, aTst, aIfE, aAndV, aOrV, aNotV, aChn, aDrop, aRet, aRetN, aIf, agName, agNil, agCons, agTup, aAsg, aPar, aAug, aFor, aRng1, aRng2, aIter, aLc, aYes,
  aCl, aMt, aMk, aFl, aFst, aNeg, aI2, aI20, aLe, aLt, aGt, aGe, aSub, aMod, aMul, aFdv, aPow, aXor, aShl, aShr, agSub, aoN, aoS, aSl, aRev, aLen, aList, aTupOf, aLRg1, aLRg2, aAbs, aI2N, aMax, aMin, aDm, aAll, aAny, aBM, aApp, aPopAt, aPop, aClear, aRevM, aExt, aRepr, aClD, aLnSt, aIAdd, aBreak, aCont,
  aEnd, startA, List.map_cons, List.map_nil, List.cons_append, List.nil_append, List.length_cons, List.length_nil, List.replicate, List.getElem?_cons_zero, List.getElem?_cons_succ, List.set_cons_zero, List.set_cons_succ, Nat.reduceAdd, Nat.reduceSub, Nat.succ_eq_add_one, Int.reduceAdd, Int.reduceMul,
  reduceIte, Bool.false_eq_true, Bool.not_true, Bool.not_false, ite_true, ite_false])
local macro_rules | `(tactic| walk_at "A.hop") => `(tactic| try simp only [aMtF, aFmt, aJs, aEqO, aNeO, aReprF, aRevT, aIsiT, aInt, aStrI, aEnum, aZip, aMulL, aCount, aAugS, aSetOf, aSrtSet, aSum, aDNew, aDIn, aDIx, aDPut, aLenD, aListD, aBits, aDsp1, aBool, aSorted, wipeA, aSeq, aNext, aSet, aVar, atV_s, onB_b, onI_i, onII_i, onL1_i, onL2_i, it_l, it_t, it_s, it_x, ix_l, ix_t, ix_s, add_i, add_x, eq_i, eq_x, eq_b, is_b, aC, aNil, aCons, aOp, aUn, aTup, aLst, aCB, aNot, aAnd, aOr, aTst, aIfE, aAndV, aOrV, aNotV, aChn, aDrop, aRet, aRetN, aIf, agName, agNil, agCons, agTup, aAsg, aPar, aAug, aFor, aRng1, aRng2, aIter, aLc, aYes,
  aCl, aMt, aMk, aFl, aFst, aNeg, aI2, aI20, aLe, aLt, aGt, aGe, aSub, aMod, aMul, aFdv, aPow, aXor, aShl, aShr, agSub, aoN, aoS, aSl, aRev, aLen, aList, aTupOf, aLRg1, aLRg2, aAbs, aI2N, aMax, aMin, aDm, aAll, aAny, aBM, aApp, aPopAt, aPop, aClear, aRevM, aExt, aRepr, aClD, aLnSt, aIAdd, aBreak, aCont,
  aEnd, startA, List.map_cons, List.map_nil, List.cons_append, List.nil_append, List.length_cons, List.length_nil, List.replicate, List.getElem?_cons_zero, List.getElem?_cons_succ, List.set_cons_zero, List.set_cons_succ, Nat.reduceAdd, Nat.reduceSub, Nat.succ_eq_add_one, Int.reduceAdd, Int.reduceMul,
  reduceIte, Bool.false_eq_true, Bool.not_true, Bool.not_false, ite_true, ite_false])
local macro_rules | `(tactic| walk_at "A.lop") => `(tactic| try simp only [decide_true, decide_false, aMtF, aFmt, aJs, aEqO, aNeO, aReprF, aRevT, aIsiT, aInt, aStrI, aEnum, aZip, aMulL, aCount, aAugS, aSetOf, aSrtSet, aSum, aDNew, aDIn, aDIx, aDPut, aLenD, aListD, aBits, aDsp1, aBool, aSorted, wipeA, aSeq, aNext, aSet, aVar, atV_s, onB_b, onI_i, onII_i, onL1_i, onL2_i, it_l, it_t, it_s, it_x, ix_l, ix_t, ix_s, add_i, add_x, eq_i, eq_x, eq_b, is_b, aC, aNil, aCons, aOp, aUn, aTup, aLst, aCB, aNot, aAnd, aOr, aTst, aIfE, aAndV, aOrV, aNotV, aChn, aDrop, aRet, aRetN, aIf, agName, agNil, agCons, agTup, aAsg, aPar, aAug, aFor, aRng1, aRng2, aIter, aLc, aYes,
  aCl, aMt, aMk, aFl, aFst, aNeg, aI2, aI20, aLe, aLt, aGt, aGe, aSub, aMod, aMul, aFdv, aPow, aXor, aShl, aShr, agSub, aoN, aoS, aSl, aRev, aLen, aList, aTupOf, aLRg1, aLRg2, aAbs, aI2N, aMax, aMin, aDm, aBM, aApp, aPopAt, aPop, aClear, aRevM, aExt, aClD, aLnSt, aIAdd, aBreak, aCont,
  aEnd, startA, List.map_cons, List.map_nil, List.cons_append, List.nil_append, List.length_cons, List.length_nil, List.replicate, List.getElem?_cons_zero, List.getElem?_cons_succ, List.set_cons_zero, List.set_cons_succ, Nat.reduceAdd, Nat.reduceSub, Nat.succ_eq_add_one, Int.reduceAdd, Int.reduceMul,
  reduceIte, Bool.false_eq_true, Bool.not_true, Bool.not_false, ite_true, ite_false])
noncomputable def Yd.R (u : Yd) (p : Int → Prop) : Int := u.worth ((rng u.len).filter fun k => @decide (p k) (Classical.propDecidable _))
section
variable {u : Yd} {p q : Int → Prop} {hp : List Int} {i : Int}
theorem mem_R {k : Int} : k ∈ ((rng u.len).filter fun k => @decide (p k) (Classical.propDecidable _)) ↔ InR u.len k ∧ p k := by
  rw [List.mem_filter, mem_rngI]
  exact and_congr_right fun _ => @decide_eq_true_iff (p k) (Classical.propDecidable _)
theorem R_of (ok : u.Ok) (h : Heap_ u.len hp) (e : ∀ k, p k ↔ k ∈ hp) : u.worth hp = u.R p := by
  unfold Yd.R
  refine Yd.worth_perm ok h.2 (perm_of h.1 heap_fl.1 fun k => ?_)
  rw [mem_R, e]
  exact ⟨fun z => ⟨h.2 k z, z⟩, fun z => z.2⟩
theorem R_iff (ok : u.Ok) (e : ∀ k, InR u.len k → (p k ↔ q k)) : u.R p = u.R q := by
  unfold Yd.R
  refine Yd.worth_perm ok heap_fl.2 (perm_of heap_fl.1 heap_fl.1 fun k => ?_)
  rw [mem_R, mem_R]
  exact and_congr_right fun h => e k h
theorem R_mono (ok : u.Ok) (e : ∀ k, InR u.len k → p k → q k) : u.R p ≤ u.R q := by
  unfold Yd.R
  refine (Yd.mono ok heap_fl heap_fl fun k hk => ?_).1
  rw [mem_R] at hk ⊢
  exact ⟨hk.1, e k hk.1 hk.2⟩
theorem R_all (ok : u.Ok) : u.R (fun _ => True) = u.worth (rng u.len) := (R_iff ok fun k hk => by simpa using mem_rngI.mpr hk).trans (R_of ok heap_rng (p := fun k => k ∈ rng u.len) fun _ => Iff.rfl).symm
end
end A

namespace A
open PySem PySem.Spec L2 PyProof.Rows
local macro_rules | `(tactic| walk_at "A.go") => `(tactic| simp only [aSeq, aNext, aSet, aVar, atV_s, onB_b, onI_i, onII_i, onL1_i, onL2_i, it_l, it_t, it_s, it_x, ix_l, ix_t, ix_s, add_i, add_x, eq_i, eq_x, eq_b, is_b, aC, aNil, aCons, aOp, aUn, aTup, aLst, aCB, aNot, aAnd, aOr, aTst, aIfE, aAndV, aOrV, aNotV, aChn, aDrop, aRet, aRetN, aIf, agName, agNil, agCons, agTup, aAsg, aPar, aAug, aFor, aRng1, aRng2, aIter, aLc, aYes,
  aCl, aMt, aMk, aFl, aFst, aNeg, aI2, aI20, aLe, aLt, aGt, aGe, aSub, aMod, aMul, aFdv, aPow, aXor, aShl, aShr, agSub, aoN, aoS, aSl, aRev, aLen, aList, aTupOf, aLRg1, aLRg2, aAbs, aI2N, aMax, aMin, aDm, aAll, aAny, aBM, aApp, aPopAt, aPop, aClear, aRevM, aExt, aRepr, aClD, aLnSt, aIAdd, aBreak, aCont,
  aEnd, startA, List.map_cons, List.map_nil, List.cons_append, List.nil_append, List.length_cons, List.length_nil, List.replicate, List.getElem?_cons_zero, List.getElem?_cons_succ, List.set_cons_zero, List.set_cons_succ, Nat.reduceAdd, Nat.reduceSub, Nat.succ_eq_add_one, Int.reduceAdd, Int.reduceMul,
  reduceIte, Bool.false_eq_true, Bool.not_true, Bool.not_false, ite_true, ite_false])
local macro_rules | `(tactic| walk_at "A.hop") => `(tactic| try simp only [aMtF, aFmt, aJs, aEqO, aNeO, aReprF, aRevT, aIsiT, aInt, aStrI, aEnum, aZip, aMulL, aCount, aAugS, aSetOf, aSrtSet, aSum, aDNew, aDIn, aDIx, aDPut, aLenD, aListD, aBits, aDsp1, aBool, aSorted, wipeA, aSeq, aNext, aSet, aVar, atV_s, onB_b, onI_i, onII_i, onL1_i, onL2_i, it_l, it_t, it_s, it_x, ix_l, ix_t, ix_s, add_i, add_x, eq_i, eq_x, eq_b, is_b, aC, aNil, aCons, aOp, aUn, aTup, aLst, aCB, aNot, aAnd, aOr, aTst, aIfE, aAndV, aOrV, aNotV, aChn, aDrop, aRet, aRetN, aIf, agName, agNil, agCons, agTup, aAsg, aPar, aAug, aFor, aRng1, aRng2, aIter, aLc, aYes,
  aCl, aMt, aMk, aFl, aFst, aNeg, aI2, aI20, aLe, aLt, aGt, aGe, aSub, aMod, aMul, aFdv, aPow, aXor, aShl, aShr, agSub, aoN, aoS, aSl, aRev, aLen, aList, aTupOf, aLRg1, aLRg2, aAbs, aI2N, aMax, aMin, aDm, aAll, aAny, aBM, aApp, aPopAt, aPop, aClear, aRevM, aExt, aRepr, aClD, aLnSt, aIAdd, aBreak, aCont,
  aEnd, startA, List.map_cons, List.map_nil, List.cons_append, List.nil_append, List.length_cons, List.length_nil, List.replicate, List.getElem?_cons_zero, List.getElem?_cons_succ, List.set_cons_zero, List.set_cons_succ, Nat.reduceAdd, Nat.reduceSub, Nat.succ_eq_add_one, Int.reduceAdd, Int.reduceMul,
  reduceIte, Bool.false_eq_true, Bool.not_true, Bool.not_false, ite_true, ite_false])
local macro_rules | `(tactic| walk_at "A.lop") => `(tactic| try simp only [decide_true, decide_false, aMtF, aFmt, aJs, aEqO, aNeO, aReprF, aRevT, aIsiT, aInt, aStrI, aEnum, aZip, aMulL, aCount, aAugS, aSetOf, aSrtSet, aSum, aDNew, aDIn, aDIx, aDPut, aLenD, aListD, aBits, aDsp1, aBool, aSorted, wipeA, aSeq, aNext, aSet, aVar, atV_s, onB_b, onI_i, onII_i, onL1_i, onL2_i, it_l, it_t, it_s, it_x, ix_l, ix_t, ix_s, add_i, add_x, eq_i, eq_x, eq_b, is_b, aC, aNil, aCons, aOp, aUn, aTup, aLst, aCB, aNot, aAnd, aOr, aTst, aIfE, aAndV, aOrV, aNotV, aChn, aDrop, aRet, aRetN, aIf, agName, agNil, agCons, agTup, aAsg, aPar, aAug, aFor, aRng1, aRng2, aIter, aLc, aYes,
  aCl, aMt, aMk, aFl, aFst, aNeg, aI2, aI20, aLe, aLt, aGt, aGe, aSub, aMod, aMul, aFdv, aPow, aXor, aShl, aShr, agSub, aoN, aoS, aSl, aRev, aLen, aList, aTupOf, aLRg1, aLRg2, aAbs, aI2N, aMax, aMin, aDm, aBM, aApp, aPopAt, aPop, aClear, aRevM, aExt, aClD, aLnSt, aIAdd, aBreak, aCont,
  aEnd, startA, List.map_cons, List.map_nil, List.cons_append, List.nil_append, List.length_cons, List.length_nil, List.replicate, List.getElem?_cons_zero, List.getElem?_cons_succ, List.set_cons_zero, List.set_cons_succ, Nat.reduceAdd, Nat.reduceSub, Nat.succ_eq_add_one, Int.reduceAdd, Int.reduceMul,
  reduceIte, Bool.false_eq_true, Bool.not_true, Bool.not_false, ite_true, ite_false])
end A

/-! ## rings: plain laws -/
namespace A
open PySem PySem.Spec L2 PyProof.Rows
local macro_rules | `(tactic| walk_at "A.go") => `(tactic| simp only [aSeq, aNext, aSet, aVar, atV_s, onB_b, onI_i, onII_i, onL1_i, onL2_i, it_l, it_t, it_s, it_x, ix_l, ix_t, ix_s, add_i, add_x, eq_i, eq_x, eq_b, is_b, aC, aNil, aCons, aOp, aUn, aTup, aLst, aCB, aNot, aAnd, aOr, aTst, aIfE, aAndV, aOrV, aNotV, aChn, aDrop, aRet, aRetN, aIf, agName, agNil, agCons, agTup, aAsg, aPar, aAug, aFor, aRng1, aRng2, aIter, aLc, aYes,
  aCl, aMt, aMk, aFl, aFst, aNeg, aI2, aI20, aLe, aLt, aGt, aGe, aSub, aMod, aMul, aFdv, aPow, aXor, aShl, aShr, agSub, aoN, aoS, aSl, aRev, aLen, aList, aTupOf, aLRg1, aLRg2, aAbs, aI2N, aMax, aMin, aDm, aAll, aAny, aBM, aApp, aPopAt, aPop, aClear, aRevM, aExt, aRepr, aClD, aLnSt, aIAdd, aBreak, aCont,
  aEnd, startA, List.map_cons, List.map_nil, List.cons_append, List.nil_append, List.length_cons, List.length_nil, List.replicate, List.getElem?_cons_zero, List.getElem?_cons_succ, List.set_cons_zero, List.set_cons_succ, Nat.reduceAdd, Nat.reduceSub, Nat.succ_eq_add_one, Int.reduceAdd, Int.reduceMul,
  reduceIte, Bool.false_eq_true, Bool.not_true, Bool.not_false, ite_true, ite_false])
local macro_rules | `(tactic| walk_at "A.hop") => `(tactic| try simp only [aMtF, aFmt, aJs, aEqO, aNeO, aReprF, aRevT, aIsiT, aInt, aStrI, aEnum, aZip, aMulL, aCount, aAugS, aSetOf, aSrtSet, aSum, aDNew, aDIn, aDIx, aDPut, aLenD, aListD, aBits, aDsp1, aBool, aSorted, wipeA, aSeq, aNext, aSet, aVar, atV_s, onB_b, onI_i, onII_i, onL1_i, onL2_i, it_l, it_t, it_s, it_x, ix_l, ix_t, ix_s, add_i, add_x, eq_i, eq_x, eq_b, is_b, aC, aNil, aCons, aOp, aUn, aTup, aLst, aCB, aNot, aAnd, aOr, aTst, aIfE, aAndV, aOrV, aNotV, aChn, aDrop, aRet, aRetN, aIf, agName, agNil, agCons, agTup, aAsg, aPar, aAug, aFor, aRng1, aRng2, aIter, aLc, aYes,
  aCl, aMt, aMk, aFl, aFst, aNeg, aI2, aI20, aLe, aLt, aGt, aGe, aSub, aMod, aMul, aFdv, aPow, aXor, aShl, aShr, agSub, aoN, aoS, aSl, aRev, aLen, aList, aTupOf, aLRg1, aLRg2, aAbs, aI2N, aMax, aMin, aDm, aAll, aAny, aBM, aApp, aPopAt, aPop, aClear, aRevM, aExt, aRepr, aClD, aLnSt, aIAdd, aBreak, aCont,
  aEnd, startA, List.map_cons, List.map_nil, List.cons_append, List.nil_append, List.length_cons, List.length_nil, List.replicate, List.getElem?_cons_zero, List.getElem?_cons_succ, List.set_cons_zero, List.set_cons_succ, Nat.reduceAdd, Nat.reduceSub, Nat.succ_eq_add_one, Int.reduceAdd, Int.reduceMul,
  reduceIte, Bool.false_eq_true, Bool.not_true, Bool.not_false, ite_true, ite_false])
local macro_rules | `(tactic| walk_at "A.lop") => `(tactic| try simp only [decide_true, decide_false, aMtF, aFmt, aJs, aEqO, aNeO, aReprF, aRevT, aIsiT, aInt, aStrI, aEnum, aZip, aMulL, aCount, aAugS, aSetOf, aSrtSet, aSum, aDNew, aDIn, aDIx, aDPut, aLenD, aListD, aBits, aDsp1, aBool, aSorted, wipeA, aSeq, aNext, aSet, aVar, atV_s, onB_b, onI_i, onII_i, onL1_i, onL2_i, it_l, it_t, it_s, it_x, ix_l, ix_t, ix_s, add_i, add_x, eq_i, eq_x, eq_b, is_b, aC, aNil, aCons, aOp, aUn, aTup, aLst, aCB, aNot, aAnd, aOr, aTst, aIfE, aAndV, aOrV, aNotV, aChn, aDrop, aRet, aRetN, aIf, agName, agNil, agCons, agTup, aAsg, aPar, aAug, aFor, aRng1, aRng2, aIter, aLc, aYes,
  aCl, aMt, aMk, aFl, aFst, aNeg, aI2, aI20, aLe, aLt, aGt, aGe, aSub, aMod, aMul, aFdv, aPow, aXor, aShl, aShr, agSub, aoN, aoS, aSl, aRev, aLen, aList, aTupOf, aLRg1, aLRg2, aAbs, aI2N, aMax, aMin, aDm, aBM, aApp, aPopAt, aPop, aClear, aRevM, aExt, aClD, aLnSt, aIAdd, aBreak, aCont,
  aEnd, startA, List.map_cons, List.map_nil, List.cons_append, List.nil_append, List.length_cons, List.length_nil, List.replicate, List.getElem?_cons_zero, List.getElem?_cons_succ, List.set_cons_zero, List.set_cons_succ, Nat.reduceAdd, Nat.reduceSub, Nat.succ_eq_add_one, Int.reduceAdd, Int.reduceMul,
  reduceIte, Bool.false_eq_true, Bool.not_true, Bool.not_false, ite_true, ite_false])
section
variable {u : Yd} {hp B : List Int} {i : Int}
theorem R_heap (ok : u.Ok) (h : Heap_ u.len hp) : u.worth hp = u.R (· ∈ hp) := R_of ok h fun _ => Iff.rfl
end
/-! ### the heaps of some things -/
section
variable {u : Yd} {l h B : List Int} {i : Int}
end
end A

namespace A
open PySem PySem.Spec L2 PyProof.Rows
local macro_rules | `(tactic| walk_at "A.go") => `(tactic| simp only [aSeq, aNext, aSet, aVar, atV_s, onB_b, onI_i, onII_i, onL1_i, onL2_i, it_l, it_t, it_s, it_x, ix_l, ix_t, ix_s, add_i, add_x, eq_i, eq_x, eq_b, is_b, aC, aNil, aCons, aOp, aUn, aTup, aLst, aCB, aNot, aAnd, aOr, aTst, aIfE, aAndV, aOrV, aNotV, aChn, aDrop, aRet, aRetN, aIf, agName, agNil, agCons, agTup, aAsg, aPar, aAug, aFor, aRng1, aRng2, aIter, aLc, aYes,
  aCl, aMt, aMk, aFl, aFst, aNeg, aI2, aI20, aLe, aLt, aGt, aGe, aSub, aMod, aMul, aFdv, aPow, aXor, aShl, aShr, agSub, aoN, aoS, aSl, aRev, aLen, aList, aTupOf, aLRg1, aLRg2, aAbs, aI2N, aMax, aMin, aDm, aAll, aAny, aBM, aApp, aPopAt, aPop, aClear, aRevM, aExt, aRepr, aClD, aLnSt, aIAdd, aBreak, aCont,
  aEnd, startA, List.map_cons, List.map_nil, List.cons_append, List.nil_append, List.length_cons, List.length_nil, List.replicate, List.getElem?_cons_zero, List.getElem?_cons_succ, List.set_cons_zero, List.set_cons_succ, Nat.reduceAdd, Nat.reduceSub, Nat.succ_eq_add_one, Int.reduceAdd, Int.reduceMul,
  reduceIte, Bool.false_eq_true, Bool.not_true, Bool.not_false, ite_true, ite_false])
local macro_rules | `(tactic| walk_at "A.hop") => `(tactic| try simp only [aMtF, aFmt, aJs, aEqO, aNeO, aReprF, aRevT, aIsiT, aInt, aStrI, aEnum, aZip, aMulL, aCount, aAugS, aSetOf, aSrtSet, aSum, aDNew, aDIn, aDIx, aDPut, aLenD, aListD, aBits, aDsp1, aBool, aSorted, wipeA, aSeq, aNext, aSet, aVar, atV_s, onB_b, onI_i, onII_i, onL1_i, onL2_i, it_l, it_t, it_s, it_x, ix_l, ix_t, ix_s, add_i, add_x, eq_i, eq_x, eq_b, is_b, aC, aNil, aCons, aOp, aUn, aTup, aLst, aCB, aNot, aAnd, aOr, aTst, aIfE, aAndV, aOrV, aNotV, aChn, aDrop, aRet, aRetN, aIf, agName, agNil, agCons, agTup, aAsg, aPar, aAug, aFor, aRng1, aRng2, aIter, aLc, aYes,
  aCl, aMt, aMk, aFl, aFst, aNeg, aI2, aI20, aLe, aLt, aGt, aGe, aSub, aMod, aMul, aFdv, aPow, aXor, aShl, aShr, agSub, aoN, aoS, aSl, aRev, aLen, aList, aTupOf, aLRg1, aLRg2, aAbs, aI2N, aMax, aMin, aDm, aAll, aAny, aBM, aApp, aPopAt, aPop, aClear, aRevM, aExt, aRepr, aClD, aLnSt, aIAdd, aBreak, aCont,
  aEnd, startA, List.map_cons, List.map_nil, List.cons_append, List.nil_append, List.length_cons, List.length_nil, List.replicate, List.getElem?_cons_zero, List.getElem?_cons_succ, List.set_cons_zero, List.set_cons_succ, Nat.reduceAdd, Nat.reduceSub, Nat.succ_eq_add_one, Int.reduceAdd, Int.reduceMul,
  reduceIte, Bool.false_eq_true, Bool.not_true, Bool.not_false, ite_true, ite_false])
local macro_rules | `(tactic| walk_at "A.lop") => `(tactic| try simp only [decide_true, decide_false, aMtF, aFmt, aJs, aEqO, aNeO, aReprF, aRevT, aIsiT, aInt, aStrI, aEnum, aZip, aMulL, aCount, aAugS, aSetOf, aSrtSet, aSum, aDNew, aDIn, aDIx, aDPut, aLenD, aListD, aBits, aDsp1, aBool, aSorted, wipeA, aSeq, aNext, aSet, aVar, atV_s, onB_b, onI_i, onII_i, onL1_i, onL2_i, it_l, it_t, it_s, it_x, ix_l, ix_t, ix_s, add_i, add_x, eq_i, eq_x, eq_b, is_b, aC, aNil, aCons, aOp, aUn, aTup, aLst, aCB, aNot, aAnd, aOr, aTst, aIfE, aAndV, aOrV, aNotV, aChn, aDrop, aRet, aRetN, aIf, agName, agNil, agCons, agTup, aAsg, aPar, aAug, aFor, aRng1, aRng2, aIter, aLc, aYes,
  aCl, aMt, aMk, aFl, aFst, aNeg, aI2, aI20, aLe, aLt, aGt, aGe, aSub, aMod, aMul, aFdv, aPow, aXor, aShl, aShr, agSub, aoN, aoS, aSl, aRev, aLen, aList, aTupOf, aLRg1, aLRg2, aAbs, aI2N, aMax, aMin, aDm, aBM, aApp, aPopAt, aPop, aClear, aRevM, aExt, aClD, aLnSt, aIAdd, aBreak, aCont,
  aEnd, startA, List.map_cons, List.map_nil, List.cons_append, List.nil_append, List.length_cons, List.length_nil, List.replicate, List.getElem?_cons_zero, List.getElem?_cons_succ, List.set_cons_zero, List.set_cons_succ, Nat.reduceAdd, Nat.reduceSub, Nat.succ_eq_add_one, Int.reduceAdd, Int.reduceMul,
  reduceIte, Bool.false_eq_true, Bool.not_true, Bool.not_false, ite_true, ite_false])
end A

/-! ## boxes: what was asked is taken back; what was said yes to is free -/
namespace A
open PySem PySem.Spec L2 PyProof.Rows
local macro_rules | `(tactic| walk_at "A.go") => `(tactic| simp only [aSeq, aNext, aSet, aVar, atV_s, onB_b, onI_i, onII_i, onL1_i, onL2_i, it_l, it_t, it_s, it_x, ix_l, ix_t, ix_s, add_i, add_x, eq_i, eq_x, eq_b, is_b, aC, aNil, aCons, aOp, aUn, aTup, aLst, aCB, aNot, aAnd, aOr, aTst, aIfE, aAndV, aOrV, aNotV, aChn, aDrop, aRet, aRetN, aIf, agName, agNil, agCons, agTup, aAsg, aPar, aAug, aFor, aRng1, aRng2, aIter, aLc, aYes,
  aCl, aMt, aMk, aFl, aFst, aNeg, aI2, aI20, aLe, aLt, aGt, aGe, aSub, aMod, aMul, aFdv, aPow, aXor, aShl, aShr, agSub, aoN, aoS, aSl, aRev, aLen, aList, aTupOf, aLRg1, aLRg2, aAbs, aI2N, aMax, aMin, aDm, aAll, aAny, aBM, aApp, aPopAt, aPop, aClear, aRevM, aExt, aRepr, aClD, aLnSt, aIAdd, aBreak, aCont,
  aEnd, startA, List.map_cons, List.map_nil, List.cons_append, List.nil_append, List.length_cons, List.length_nil, List.replicate, List.getElem?_cons_zero, List.getElem?_cons_succ, List.set_cons_zero, List.set_cons_succ, Nat.reduceAdd, Nat.reduceSub, Nat.succ_eq_add_one, Int.reduceAdd, Int.reduceMul,
  reduceIte, Bool.false_eq_true, Bool.not_true, Bool.not_false, ite_true, ite_false])
local macro_rules | `(tactic| walk_at "A.hop") => `(tactic| try simp only [aMtF, aFmt, aJs, aEqO, aNeO, aReprF, aRevT, aIsiT, aInt, aStrI, aEnum, aZip, aMulL, aCount, aAugS, aSetOf, aSrtSet, aSum, aDNew, aDIn, aDIx, aDPut, aLenD, aListD, aBits, aDsp1, aBool, aSorted, wipeA, aSeq, aNext, aSet, aVar, atV_s, onB_b, onI_i, onII_i, onL1_i, onL2_i, it_l, it_t, it_s, it_x, ix_l, ix_t, ix_s, add_i, add_x, eq_i, eq_x, eq_b, is_b, aC, aNil, aCons, aOp, aUn, aTup, aLst, aCB, aNot, aAnd, aOr, aTst, aIfE, aAndV, aOrV, aNotV, aChn, aDrop, aRet, aRetN, aIf, agName, agNil, agCons, agTup, aAsg, aPar, aAug, aFor, aRng1, aRng2, aIter, aLc, aYes,
  aCl, aMt, aMk, aFl, aFst, aNeg, aI2, aI20, aLe, aLt, aGt, aGe, aSub, aMod, aMul, aFdv, aPow, aXor, aShl, aShr, agSub, aoN, aoS, aSl, aRev, aLen, aList, aTupOf, aLRg1, aLRg2, aAbs, aI2N, aMax, aMin, aDm, aAll, aAny, aBM, aApp, aPopAt, aPop, aClear, aRevM, aExt, aRepr, aClD, aLnSt, aIAdd, aBreak, aCont,
  aEnd, startA, List.map_cons, List.map_nil, List.cons_append, List.nil_append, List.length_cons, List.length_nil, List.replicate, List.getElem?_cons_zero, List.getElem?_cons_succ, List.set_cons_zero, List.set_cons_succ, Nat.reduceAdd, Nat.reduceSub, Nat.succ_eq_add_one, Int.reduceAdd, Int.reduceMul,
  reduceIte, Bool.false_eq_true, Bool.not_true, Bool.not_false, ite_true, ite_false])
local macro_rules | `(tactic| walk_at "A.lop") => `(tactic| try simp only [decide_true, decide_false, aMtF, aFmt, aJs, aEqO, aNeO, aReprF, aRevT, aIsiT, aInt, aStrI, aEnum, aZip, aMulL, aCount, aAugS, aSetOf, aSrtSet, aSum, aDNew, aDIn, aDIx, aDPut, aLenD, aListD, aBits, aDsp1, aBool, aSorted, wipeA, aSeq, aNext, aSet, aVar, atV_s, onB_b, onI_i, onII_i, onL1_i, onL2_i, it_l, it_t, it_s, it_x, ix_l, ix_t, ix_s, add_i, add_x, eq_i, eq_x, eq_b, is_b, aC, aNil, aCons, aOp, aUn, aTup, aLst, aCB, aNot, aAnd, aOr, aTst, aIfE, aAndV, aOrV, aNotV, aChn, aDrop, aRet, aRetN, aIf, agName, agNil, agCons, agTup, aAsg, aPar, aAug, aFor, aRng1, aRng2, aIter, aLc, aYes,
  aCl, aMt, aMk, aFl, aFst, aNeg, aI2, aI20, aLe, aLt, aGt, aGe, aSub, aMod, aMul, aFdv, aPow, aXor, aShl, aShr, agSub, aoN, aoS, aSl, aRev, aLen, aList, aTupOf, aLRg1, aLRg2, aAbs, aI2N, aMax, aMin, aDm, aBM, aApp, aPopAt, aPop, aClear, aRevM, aExt, aClD, aLnSt, aIAdd, aBreak, aCont,
  aEnd, startA, List.map_cons, List.map_nil, List.cons_append, List.nil_append, List.length_cons, List.length_nil, List.replicate, List.getElem?_cons_zero, List.getElem?_cons_succ, List.set_cons_zero, List.set_cons_succ, Nat.reduceAdd, Nat.reduceSub, Nat.succ_eq_add_one, Int.reduceAdd, Int.reduceMul,
  reduceIte, Bool.false_eq_true, Bool.not_true, Bool.not_false, ite_true, ite_false])
/-! ### repr of answers -/
/-! ### what may still be counted on -/
section
variable {m : Nat} {ps : List (Int × Bool)} {k i : Int} {u : Yd}
theorem memYes : k ∈ yesB m ps ↔ InR m k ∧ (k, true) ∈ ps := by unfold yesB; rw [List.mem_filter, mem_rngI, decide_eq_true_iff]
theorem memUn : k ∈ unB m ps ↔ InR m k ∧ ∀ a, (k, a) ∉ ps := by
  unfold unB
  rw [List.mem_filter, mem_rngI]
  constructor
  · rintro ⟨h1, h2⟩
    refine ⟨h1, fun a ha => ?_⟩
    rw [askd_iff.mpr ⟨a, ha⟩] at h2
    cases h2
  · rintro ⟨h1, h2⟩
    refine ⟨h1, ?_⟩
    cases c : askd ps k with
    | false => rfl
    | true => obtain ⟨a, ha⟩ := askd_iff.mp c; exact (h2 a ha).elim
theorem ask_one (h : Asks m ps) {a b : Bool} (h1 : (k, a) ∈ ps) (h2 : (k, b) ∈ ps) : a = b := by
  have v1 := val_of h.1 h1
  have v2 := val_of h.1 h2
  rw [v1] at v2
  injection v2 with e
  injection e
/-- yes, or not asked -/
theorem memOpen (h : Asks m ps) : k ∈ yesB m ps ++ unB m ps ↔ InR m k ∧ (k, false) ∉ ps := by
  rw [List.mem_append, memYes, memUn]
  constructor
  · rintro (⟨h1, h2⟩ | ⟨h1, h2⟩)
    · exact ⟨h1, fun z => Bool.noConfusion (ask_one h h2 z)⟩
    · exact ⟨h1, h2 _⟩
  · rintro ⟨h1, h2⟩
    by_cases c : (k, true) ∈ ps
    · exact .inl ⟨h1, c⟩
    · refine .inr ⟨h1, fun a => ?_⟩
      cases a
      · exact h2
      · exact c
noncomputable def opR (u : Yd) (ps : List (Int × Bool)) : Int := u.R fun k => (k, false) ∉ ps
noncomputable def opRw (u : Yd) (ps : List (Int × Bool)) (i : Int) : Int := u.R fun k => (k, false) ∉ ps ∧ k ≠ i
def GoodB (u : Yd) (ps : List (Int × Bool)) : Prop := opR u ps = u.worth (rng u.len) ∧ ∀ i, (i, true) ∈ ps → opRw u ps i < u.worth (rng u.len)
theorem worth_rest (ok : u.Ok) (h : Asks u.len ps) : u.worth (restB u.len ps i) = opRw u ps i := by
  rw [R_heap ok rest_heap]
  refine R_iff ok fun k hk => ?_
  unfold restB
  rw [List.mem_filter, memOpen h]
  simp only [Bool.not_eq_true', decide_eq_false_iff_not]
  exact ⟨fun z => ⟨z.1.2, z.2⟩, fun z => ⟨⟨hk, z.1⟩, z.2⟩⟩
theorem good_more (ok : u.Ok) (h : Asks u.len ps) (g : GoodB u ps) (n : ∀ p ∈ ps, p.1 ≠ i) : GoodB u (ps ++ [(i, saysB u ps i)]) := by
  have top : ∀ p : Int → Prop, u.R p ≤ u.worth (rng u.len) := fun p => by rw [← R_all ok]; exact R_mono ok fun _ _ _ => trivial
  have e0 : saysB u ps i = decide (opRw u ps i < u.worth (rng u.len)) := by unfold saysB; rw [worth_rest ok h]
  cases c : saysB u ps i with
  | true =>
    rw [c] at e0
    have lt := of_decide_eq_true e0.symm
    have m : ∀ k, (k, false) ∉ ps ++ [(i, true)] ↔ (k, false) ∉ ps := fun k => by simp
    have e : ∀ j, opRw u (ps ++ [(i, true)]) j = opRw u ps j := fun j => R_iff ok fun k _ => by rw [m]
    refine ⟨(R_iff ok fun k _ => m k).trans g.1, fun j hj => ?_⟩
    rw [e]
    rcases List.mem_append.mp hj with z | z
    · exact g.2 j z
    · simp only [List.mem_singleton, Prod.mk.injEq, and_true] at z
      rw [z]
      exact lt
  | false =>
    rw [c] at e0
    have ge := of_decide_eq_false e0.symm
    have m : ∀ k, (k, false) ∉ ps ++ [(i, false)] ↔ (k, false) ∉ ps ∧ k ≠ i := fun k => by
      simp only [List.mem_append, List.mem_singleton, Prod.mk.injEq, and_true, not_or]
    have t := top fun k => (k, false) ∉ ps ∧ k ≠ i
    have up : opR u (ps ++ [(i, false)]) = opRw u ps i := R_iff ok fun k _ => m k
    refine ⟨by rw [up]; unfold opRw at ge ⊢; omega, fun j hj => ?_⟩
    rcases List.mem_append.mp hj with z | z
    · have := g.2 j z
      have mo : opRw u (ps ++ [(i, false)]) j ≤ opRw u ps j := R_mono ok fun k _ hk => ⟨((m k).mp hk.1).1, hk.2⟩
      omega
    · simp at z
end
end A

namespace A
open PySem PySem.Spec L2 PyProof.Rows
local macro_rules | `(tactic| walk_at "A.go") => `(tactic| simp only [aSeq, aNext, aSet, aVar, atV_s, onB_b, onI_i, onII_i, onL1_i, onL2_i, it_l, it_t, it_s, it_x, ix_l, ix_t, ix_s, add_i, add_x, eq_i, eq_x, eq_b, is_b, aC, aNil, aCons, aOp, aUn, aTup, aLst, aCB, aNot, aAnd, aOr, aTst, aIfE, aAndV, aOrV, aNotV, aChn, aDrop, aRet, aRetN, aIf, agName, agNil, agCons, agTup, aAsg, aPar, aAug, aFor, aRng1, aRng2, aIter, aLc, aYes,
  aCl, aMt, aMk, aFl, aFst, aNeg, aI2, aI20, aLe, aLt, aGt, aGe, aSub, aMod, aMul, aFdv, aPow, aXor, aShl, aShr, agSub, aoN, aoS, aSl, aRev, aLen, aList, aTupOf, aLRg1, aLRg2, aAbs, aI2N, aMax, aMin, aDm, aAll, aAny, aBM, aApp, aPopAt, aPop, aClear, aRevM, aExt, aRepr, aClD, aLnSt, aIAdd, aBreak, aCont,
  aEnd, startA, List.map_cons, List.map_nil, List.cons_append, List.nil_append, List.length_cons, List.length_nil, List.replicate, List.getElem?_cons_zero, List.getElem?_cons_succ, List.set_cons_zero, List.set_cons_succ, Nat.reduceAdd, Nat.reduceSub, Nat.succ_eq_add_one, Int.reduceAdd, Int.reduceMul,
  reduceIte, Bool.false_eq_true, Bool.not_true, Bool.not_false, ite_true, ite_false])
local macro_rules | `(tactic| walk_at "A.hop") => `(tactic| try simp only [aMtF, aFmt, aJs, aEqO, aNeO, aReprF, aRevT, aIsiT, aInt, aStrI, aEnum, aZip, aMulL, aCount, aAugS, aSetOf, aSrtSet, aSum, aDNew, aDIn, aDIx, aDPut, aLenD, aListD, aBits, aDsp1, aBool, aSorted, wipeA, aSeq, aNext, aSet, aVar, atV_s, onB_b, onI_i, onII_i, onL1_i, onL2_i, it_l, it_t, it_s, it_x, ix_l, ix_t, ix_s, add_i, add_x, eq_i, eq_x, eq_b, is_b, aC, aNil, aCons, aOp, aUn, aTup, aLst, aCB, aNot, aAnd, aOr, aTst, aIfE, aAndV, aOrV, aNotV, aChn, aDrop, aRet, aRetN, aIf, agName, agNil, agCons, agTup, aAsg, aPar, aAug, aFor, aRng1, aRng2, aIter, aLc, aYes,
  aCl, aMt, aMk, aFl, aFst, aNeg, aI2, aI20, aLe, aLt, aGt, aGe, aSub, aMod, aMul, aFdv, aPow, aXor, aShl, aShr, agSub, aoN, aoS, aSl, aRev, aLen, aList, aTupOf, aLRg1, aLRg2, aAbs, aI2N, aMax, aMin, aDm, aAll, aAny, aBM, aApp, aPopAt, aPop, aClear, aRevM, aExt, aRepr, aClD, aLnSt, aIAdd, aBreak, aCont,
  aEnd, startA, List.map_cons, List.map_nil, List.cons_append, List.nil_append, List.length_cons, List.length_nil, List.replicate, List.getElem?_cons_zero, List.getElem?_cons_succ, List.set_cons_zero, List.set_cons_succ, Nat.reduceAdd, Nat.reduceSub, Nat.succ_eq_add_one, Int.reduceAdd, Int.reduceMul,
  reduceIte, Bool.false_eq_true, Bool.not_true, Bool.not_false, ite_true, ite_false])
local macro_rules | `(tactic| walk_at "A.lop") => `(tactic| try simp only [decide_true, decide_false, aMtF, aFmt, aJs, aEqO, aNeO, aReprF, aRevT, aIsiT, aInt, aStrI, aEnum, aZip, aMulL, aCount, aAugS, aSetOf, aSrtSet, aSum, aDNew, aDIn, aDIx, aDPut, aLenD, aListD, aBits, aDsp1, aBool, aSorted, wipeA, aSeq, aNext, aSet, aVar, atV_s, onB_b, onI_i, onII_i, onL1_i, onL2_i, it_l, it_t, it_s, it_x, ix_l, ix_t, ix_s, add_i, add_x, eq_i, eq_x, eq_b, is_b, aC, aNil, aCons, aOp, aUn, aTup, aLst, aCB, aNot, aAnd, aOr, aTst, aIfE, aAndV, aOrV, aNotV, aChn, aDrop, aRet, aRetN, aIf, agName, agNil, agCons, agTup, aAsg, aPar, aAug, aFor, aRng1, aRng2, aIter, aLc, aYes,
  aCl, aMt, aMk, aFl, aFst, aNeg, aI2, aI20, aLe, aLt, aGt, aGe, aSub, aMod, aMul, aFdv, aPow, aXor, aShl, aShr, agSub, aoN, aoS, aSl, aRev, aLen, aList, aTupOf, aLRg1, aLRg2, aAbs, aI2N, aMax, aMin, aDm, aBM, aApp, aPopAt, aPop, aClear, aRevM, aExt, aClD, aLnSt, aIAdd, aBreak, aCont,
  aEnd, startA, List.map_cons, List.map_nil, List.cons_append, List.nil_append, List.length_cons, List.length_nil, List.replicate, List.getElem?_cons_zero, List.getElem?_cons_succ, List.set_cons_zero, List.set_cons_succ, Nat.reduceAdd, Nat.reduceSub, Nat.succ_eq_add_one, Int.reduceAdd, Int.reduceMul,
  reduceIte, Bool.false_eq_true, Bool.not_true, Bool.not_false, ite_true, ite_false])
end A

/-! ## boxes: one anew, a copy -/
namespace A
open PySem PySem.Spec L2 PyProof.Rows
local macro_rules | `(tactic| walk_at "A.go") => `(tactic| simp only [aSeq, aNext, aSet, aVar, atV_s, onB_b, onI_i, onII_i, onL1_i, onL2_i, it_l, it_t, it_s, it_x, ix_l, ix_t, ix_s, add_i, add_x, eq_i, eq_x, eq_b, is_b, aC, aNil, aCons, aOp, aUn, aTup, aLst, aCB, aNot, aAnd, aOr, aTst, aIfE, aAndV, aOrV, aNotV, aChn, aDrop, aRet, aRetN, aIf, agName, agNil, agCons, agTup, aAsg, aPar, aAug, aFor, aRng1, aRng2, aIter, aLc, aYes,
  aCl, aMt, aMk, aFl, aFst, aNeg, aI2, aI20, aLe, aLt, aGt, aGe, aSub, aMod, aMul, aFdv, aPow, aXor, aShl, aShr, agSub, aoN, aoS, aSl, aRev, aLen, aList, aTupOf, aLRg1, aLRg2, aAbs, aI2N, aMax, aMin, aDm, aAll, aAny, aBM, aApp, aPopAt, aPop, aClear, aRevM, aExt, aRepr, aClD, aLnSt, aIAdd, aBreak, aCont,
  aEnd, startA, List.map_cons, List.map_nil, List.cons_append, List.nil_append, List.length_cons, List.length_nil, List.replicate, List.getElem?_cons_zero, List.getElem?_cons_succ, List.set_cons_zero, List.set_cons_succ, Nat.reduceAdd, Nat.reduceSub, Nat.succ_eq_add_one, Int.reduceAdd, Int.reduceMul,
  reduceIte, Bool.false_eq_true, Bool.not_true, Bool.not_false, ite_true, ite_false])
local macro_rules | `(tactic| walk_at "A.hop") => `(tactic| try simp only [aMtF, aFmt, aJs, aEqO, aNeO, aReprF, aRevT, aIsiT, aInt, aStrI, aEnum, aZip, aMulL, aCount, aAugS, aSetOf, aSrtSet, aSum, aDNew, aDIn, aDIx, aDPut, aLenD, aListD, aBits, aDsp1, aBool, aSorted, wipeA, aSeq, aNext, aSet, aVar, atV_s, onB_b, onI_i, onII_i, onL1_i, onL2_i, it_l, it_t, it_s, it_x, ix_l, ix_t, ix_s, add_i, add_x, eq_i, eq_x, eq_b, is_b, aC, aNil, aCons, aOp, aUn, aTup, aLst, aCB, aNot, aAnd, aOr, aTst, aIfE, aAndV, aOrV, aNotV, aChn, aDrop, aRet, aRetN, aIf, agName, agNil, agCons, agTup, aAsg, aPar, aAug, aFor, aRng1, aRng2, aIter, aLc, aYes,
  aCl, aMt, aMk, aFl, aFst, aNeg, aI2, aI20, aLe, aLt, aGt, aGe, aSub, aMod, aMul, aFdv, aPow, aXor, aShl, aShr, agSub, aoN, aoS, aSl, aRev, aLen, aList, aTupOf, aLRg1, aLRg2, aAbs, aI2N, aMax, aMin, aDm, aAll, aAny, aBM, aApp, aPopAt, aPop, aClear, aRevM, aExt, aRepr, aClD, aLnSt, aIAdd, aBreak, aCont,
  aEnd, startA, List.map_cons, List.map_nil, List.cons_append, List.nil_append, List.length_cons, List.length_nil, List.replicate, List.getElem?_cons_zero, List.getElem?_cons_succ, List.set_cons_zero, List.set_cons_succ, Nat.reduceAdd, Nat.reduceSub, Nat.succ_eq_add_one, Int.reduceAdd, Int.reduceMul,
  reduceIte, Bool.false_eq_true, Bool.not_true, Bool.not_false, ite_true, ite_false])
local macro_rules | `(tactic| walk_at "A.lop") => `(tactic| try simp only [decide_true, decide_false, aMtF, aFmt, aJs, aEqO, aNeO, aReprF, aRevT, aIsiT, aInt, aStrI, aEnum, aZip, aMulL, aCount, aAugS, aSetOf, aSrtSet, aSum, aDNew, aDIn, aDIx, aDPut, aLenD, aListD, aBits, aDsp1, aBool, aSorted, wipeA, aSeq, aNext, aSet, aVar, atV_s, onB_b, onI_i, onII_i, onL1_i, onL2_i, it_l, it_t, it_s, it_x, ix_l, ix_t, ix_s, add_i, add_x, eq_i, eq_x, eq_b, is_b, aC, aNil, aCons, aOp, aUn, aTup, aLst, aCB, aNot, aAnd, aOr, aTst, aIfE, aAndV, aOrV, aNotV, aChn, aDrop, aRet, aRetN, aIf, agName, agNil, agCons, agTup, aAsg, aPar, aAug, aFor, aRng1, aRng2, aIter, aLc, aYes,
  aCl, aMt, aMk, aFl, aFst, aNeg, aI2, aI20, aLe, aLt, aGt, aGe, aSub, aMod, aMul, aFdv, aPow, aXor, aShl, aShr, agSub, aoN, aoS, aSl, aRev, aLen, aList, aTupOf, aLRg1, aLRg2, aAbs, aI2N, aMax, aMin, aDm, aBM, aApp, aPopAt, aPop, aClear, aRevM, aExt, aClD, aLnSt, aIAdd, aBreak, aCont,
  aEnd, startA, List.map_cons, List.map_nil, List.cons_append, List.nil_append, List.length_cons, List.length_nil, List.replicate, List.getElem?_cons_zero, List.getElem?_cons_succ, List.set_cons_zero, List.set_cons_succ, Nat.reduceAdd, Nat.reduceSub, Nat.succ_eq_add_one, Int.reduceAdd, Int.reduceMul,
  reduceIte, Bool.false_eq_true, Bool.not_true, Bool.not_false, ite_true, ite_false])
/-- the box's answers, each with those ahead of it -/
def HistB (u : Yd) (ps : List (Int × Bool)) : Prop := ∀ qs rs, ps = qs ++ rs → GoodB u qs ∧ ∀ x rs', rs = x :: rs' → saysB u qs x.1 = x.2
section
variable {u : Yd} {ps qs : List (Int × Bool)} {i : Int}
theorem HistB.good (h : HistB u ps) : GoodB u ps := (h ps [] (List.append_nil _).symm).1
theorem HistB.ahead (h : HistB u (ps ++ qs)) : HistB u ps := fun as bs e => by
  obtain ⟨h1, h2⟩ := h as (bs ++ qs) (by rw [e, List.append_assoc])
  exact ⟨h1, fun x rs' z => h2 x (rs' ++ qs) (by rw [z]; rfl)⟩
theorem HistB.more (ok : u.Ok) (ha : Asks u.len ps) (h : HistB u ps) (n : ∀ p ∈ ps, p.1 ≠ i) : HistB u (ps ++ [(i, saysB u ps i)]) := fun as bs e => by
  rcases List.eq_nil_or_concat bs with rfl | ⟨bs', z, rfl⟩
  · rw [List.append_nil] at e
    subst e
    exact ⟨good_more ok ha h.good n, fun x rs' z => by cases z⟩
  · rw [List.concat_eq_append, ← List.append_assoc] at e
    obtain ⟨e1, e2⟩ := List.append_inj' e rfl
    obtain ⟨h1, h2⟩ := h as bs' e1
    refine ⟨h1, fun x rs' w => ?_⟩
    cases bs' with
    | nil =>
      rw [List.append_nil] at e1
      cases e2
      cases w
      rw [e1]
    | cons y bs' =>
      cases w
      exact h2 _ bs' rfl
theorem Asks.ahead {m : Nat} (h : Asks m (ps ++ qs)) : Asks m ps := by
  have nd := h.1
  rw [List.map_append, List.nodup_append] at nd
  exact ⟨nd.1, fun p hp => h.2 p (List.mem_append_left _ hp)⟩
end
end A

namespace A
open PySem PySem.Spec L2 PyProof.Rows
local macro_rules | `(tactic| walk_at "A.go") => `(tactic| simp only [aSeq, aNext, aSet, aVar, atV_s, onB_b, onI_i, onII_i, onL1_i, onL2_i, it_l, it_t, it_s, it_x, ix_l, ix_t, ix_s, add_i, add_x, eq_i, eq_x, eq_b, is_b, aC, aNil, aCons, aOp, aUn, aTup, aLst, aCB, aNot, aAnd, aOr, aTst, aIfE, aAndV, aOrV, aNotV, aChn, aDrop, aRet, aRetN, aIf, agName, agNil, agCons, agTup, aAsg, aPar, aAug, aFor, aRng1, aRng2, aIter, aLc, aYes,
  aCl, aMt, aMk, aFl, aFst, aNeg, aI2, aI20, aLe, aLt, aGt, aGe, aSub, aMod, aMul, aFdv, aPow, aXor, aShl, aShr, agSub, aoN, aoS, aSl, aRev, aLen, aList, aTupOf, aLRg1, aLRg2, aAbs, aI2N, aMax, aMin, aDm, aAll, aAny, aBM, aApp, aPopAt, aPop, aClear, aRevM, aExt, aRepr, aClD, aLnSt, aIAdd, aBreak, aCont,
  aEnd, startA, List.map_cons, List.map_nil, List.cons_append, List.nil_append, List.length_cons, List.length_nil, List.replicate, List.getElem?_cons_zero, List.getElem?_cons_succ, List.set_cons_zero, List.set_cons_succ, Nat.reduceAdd, Nat.reduceSub, Nat.succ_eq_add_one, Int.reduceAdd, Int.reduceMul,
  reduceIte, Bool.false_eq_true, Bool.not_true, Bool.not_false, ite_true, ite_false])
local macro_rules | `(tactic| walk_at "A.hop") => `(tactic| try simp only [aMtF, aFmt, aJs, aEqO, aNeO, aReprF, aRevT, aIsiT, aInt, aStrI, aEnum, aZip, aMulL, aCount, aAugS, aSetOf, aSrtSet, aSum, aDNew, aDIn, aDIx, aDPut, aLenD, aListD, aBits, aDsp1, aBool, aSorted, wipeA, aSeq, aNext, aSet, aVar, atV_s, onB_b, onI_i, onII_i, onL1_i, onL2_i, it_l, it_t, it_s, it_x, ix_l, ix_t, ix_s, add_i, add_x, eq_i, eq_x, eq_b, is_b, aC, aNil, aCons, aOp, aUn, aTup, aLst, aCB, aNot, aAnd, aOr, aTst, aIfE, aAndV, aOrV, aNotV, aChn, aDrop, aRet, aRetN, aIf, agName, agNil, agCons, agTup, aAsg, aPar, aAug, aFor, aRng1, aRng2, aIter, aLc, aYes,
  aCl, aMt, aMk, aFl, aFst, aNeg, aI2, aI20, aLe, aLt, aGt, aGe, aSub, aMod, aMul, aFdv, aPow, aXor, aShl, aShr, agSub, aoN, aoS, aSl, aRev, aLen, aList, aTupOf, aLRg1, aLRg2, aAbs, aI2N, aMax, aMin, aDm, aAll, aAny, aBM, aApp, aPopAt, aPop, aClear, aRevM, aExt, aRepr, aClD, aLnSt, aIAdd, aBreak, aCont,
  aEnd, startA, List.map_cons, List.map_nil, List.cons_append, List.nil_append, List.length_cons, List.length_nil, List.replicate, List.getElem?_cons_zero, List.getElem?_cons_succ, List.set_cons_zero, List.set_cons_succ, Nat.reduceAdd, Nat.reduceSub, Nat.succ_eq_add_one, Int.reduceAdd, Int.reduceMul,
  reduceIte, Bool.false_eq_true, Bool.not_true, Bool.not_false, ite_true, ite_false])
local macro_rules | `(tactic| walk_at "A.lop") => `(tactic| try simp only [decide_true, decide_false, aMtF, aFmt, aJs, aEqO, aNeO, aReprF, aRevT, aIsiT, aInt, aStrI, aEnum, aZip, aMulL, aCount, aAugS, aSetOf, aSrtSet, aSum, aDNew, aDIn, aDIx, aDPut, aLenD, aListD, aBits, aDsp1, aBool, aSorted, wipeA, aSeq, aNext, aSet, aVar, atV_s, onB_b, onI_i, onII_i, onL1_i, onL2_i, it_l, it_t, it_s, it_x, ix_l, ix_t, ix_s, add_i, add_x, eq_i, eq_x, eq_b, is_b, aC, aNil, aCons, aOp, aUn, aTup, aLst, aCB, aNot, aAnd, aOr, aTst, aIfE, aAndV, aOrV, aNotV, aChn, aDrop, aRet, aRetN, aIf, agName, agNil, agCons, agTup, aAsg, aPar, aAug, aFor, aRng1, aRng2, aIter, aLc, aYes,
  aCl, aMt, aMk, aFl, aFst, aNeg, aI2, aI20, aLe, aLt, aGt, aGe, aSub, aMod, aMul, aFdv, aPow, aXor, aShl, aShr, agSub, aoN, aoS, aSl, aRev, aLen, aList, aTupOf, aLRg1, aLRg2, aAbs, aI2N, aMax, aMin, aDm, aBM, aApp, aPopAt, aPop, aClear, aRevM, aExt, aClD, aLnSt, aIAdd, aBreak, aCont,
  aEnd, startA, List.map_cons, List.map_nil, List.cons_append, List.nil_append, List.length_cons, List.length_nil, List.replicate, List.getElem?_cons_zero, List.getElem?_cons_succ, List.set_cons_zero, List.set_cons_succ, Nat.reduceAdd, Nat.reduceSub, Nat.succ_eq_add_one, Int.reduceAdd, Int.reduceMul,
  reduceIte, Bool.false_eq_true, Bool.not_true, Bool.not_false, ite_true, ite_false])
def bty2 : List String := ["NoneType", "bool", "int", "str", "list", "tuple", "dict"]
/-- a thing of a built-in kind -/
def Knd (S : Sto) (d : D) : Prop := ∃ n ∈ bty2, tyD S d = some (.type n)
end A

/-! ## what is refused: plain laws -/
namespace A
open PySem PySem.Spec L2 PyProof.Rows
local macro_rules | `(tactic| walk_at "A.go") => `(tactic| simp only [aSeq, aNext, aSet, aVar, atV_s, onB_b, onI_i, onII_i, onL1_i, onL2_i, it_l, it_t, it_s, it_x, ix_l, ix_t, ix_s, add_i, add_x, eq_i, eq_x, eq_b, is_b, aC, aNil, aCons, aOp, aUn, aTup, aLst, aCB, aNot, aAnd, aOr, aTst, aIfE, aAndV, aOrV, aNotV, aChn, aDrop, aRet, aRetN, aIf, agName, agNil, agCons, agTup, aAsg, aPar, aAug, aFor, aRng1, aRng2, aIter, aLc, aYes,
  aCl, aMt, aMk, aFl, aFst, aNeg, aI2, aI20, aLe, aLt, aGt, aGe, aSub, aMod, aMul, aFdv, aPow, aXor, aShl, aShr, agSub, aoN, aoS, aSl, aRev, aLen, aList, aTupOf, aLRg1, aLRg2, aAbs, aI2N, aMax, aMin, aDm, aAll, aAny, aBM, aApp, aPopAt, aPop, aClear, aRevM, aExt, aRepr, aClD, aLnSt, aIAdd, aBreak, aCont,
  aEnd, startA, List.map_cons, List.map_nil, List.cons_append, List.nil_append, List.length_cons, List.length_nil, List.replicate, List.getElem?_cons_zero, List.getElem?_cons_succ, List.set_cons_zero, List.set_cons_succ, Nat.reduceAdd, Nat.reduceSub, Nat.succ_eq_add_one, Int.reduceAdd, Int.reduceMul,
  reduceIte, Bool.false_eq_true, Bool.not_true, Bool.not_false, ite_true, ite_false])
local macro_rules | `(tactic| walk_at "A.hop") => `(tactic| try simp only [aMtF, aFmt, aJs, aEqO, aNeO, aReprF, aRevT, aIsiT, aInt, aStrI, aEnum, aZip, aMulL, aCount, aAugS, aSetOf, aSrtSet, aSum, aDNew, aDIn, aDIx, aDPut, aLenD, aListD, aBits, aDsp1, aBool, aSorted, wipeA, aSeq, aNext, aSet, aVar, atV_s, onB_b, onI_i, onII_i, onL1_i, onL2_i, it_l, it_t, it_s, it_x, ix_l, ix_t, ix_s, add_i, add_x, eq_i, eq_x, eq_b, is_b, aC, aNil, aCons, aOp, aUn, aTup, aLst, aCB, aNot, aAnd, aOr, aTst, aIfE, aAndV, aOrV, aNotV, aChn, aDrop, aRet, aRetN, aIf, agName, agNil, agCons, agTup, aAsg, aPar, aAug, aFor, aRng1, aRng2, aIter, aLc, aYes,
  aCl, aMt, aMk, aFl, aFst, aNeg, aI2, aI20, aLe, aLt, aGt, aGe, aSub, aMod, aMul, aFdv, aPow, aXor, aShl, aShr, agSub, aoN, aoS, aSl, aRev, aLen, aList, aTupOf, aLRg1, aLRg2, aAbs, aI2N, aMax, aMin, aDm, aAll, aAny, aBM, aApp, aPopAt, aPop, aClear, aRevM, aExt, aRepr, aClD, aLnSt, aIAdd, aBreak, aCont,
  aEnd, startA, List.map_cons, List.map_nil, List.cons_append, List.nil_append, List.length_cons, List.length_nil, List.replicate, List.getElem?_cons_zero, List.getElem?_cons_succ, List.set_cons_zero, List.set_cons_succ, Nat.reduceAdd, Nat.reduceSub, Nat.succ_eq_add_one, Int.reduceAdd, Int.reduceMul,
  reduceIte, Bool.false_eq_true, Bool.not_true, Bool.not_false, ite_true, ite_false])
local macro_rules | `(tactic| walk_at "A.lop") => `(tactic| try simp only [decide_true, decide_false, aMtF, aFmt, aJs, aEqO, aNeO, aReprF, aRevT, aIsiT, aInt, aStrI, aEnum, aZip, aMulL, aCount, aAugS, aSetOf, aSrtSet, aSum, aDNew, aDIn, aDIx, aDPut, aLenD, aListD, aBits, aDsp1, aBool, aSorted, wipeA, aSeq, aNext, aSet, aVar, atV_s, onB_b, onI_i, onII_i, onL1_i, onL2_i, it_l, it_t, it_s, it_x, ix_l, ix_t, ix_s, add_i, add_x, eq_i, eq_x, eq_b, is_b, aC, aNil, aCons, aOp, aUn, aTup, aLst, aCB, aNot, aAnd, aOr, aTst, aIfE, aAndV, aOrV, aNotV, aChn, aDrop, aRet, aRetN, aIf, agName, agNil, agCons, agTup, aAsg, aPar, aAug, aFor, aRng1, aRng2, aIter, aLc, aYes,
  aCl, aMt, aMk, aFl, aFst, aNeg, aI2, aI20, aLe, aLt, aGt, aGe, aSub, aMod, aMul, aFdv, aPow, aXor, aShl, aShr, agSub, aoN, aoS, aSl, aRev, aLen, aList, aTupOf, aLRg1, aLRg2, aAbs, aI2N, aMax, aMin, aDm, aBM, aApp, aPopAt, aPop, aClear, aRevM, aExt, aClD, aLnSt, aIAdd, aBreak, aCont,
  aEnd, startA, List.map_cons, List.map_nil, List.cons_append, List.nil_append, List.length_cons, List.length_nil, List.replicate, List.getElem?_cons_zero, List.getElem?_cons_succ, List.set_cons_zero, List.set_cons_succ, Nat.reduceAdd, Nat.reduceSub, Nat.succ_eq_add_one, Int.reduceAdd, Int.reduceMul,
  reduceIte, Bool.false_eq_true, Bool.not_true, Bool.not_false, ite_true, ite_false])
section
variable {K : PySem.W.Frag} {S : Sto} {d : D}
end
end A

/-! ## wider draws -/
namespace A
open PySem PySem.Spec L2 PyProof.Rows
local macro_rules | `(tactic| walk_at "A.go") => `(tactic| simp only [aSeq, aNext, aSet, aVar, atV_s, onB_b, onI_i, onII_i, onL1_i, onL2_i, it_l, it_t, it_s, it_x, ix_l, ix_t, ix_s, add_i, add_x, eq_i, eq_x, eq_b, is_b, aC, aNil, aCons, aOp, aUn, aTup, aLst, aCB, aNot, aAnd, aOr, aTst, aIfE, aAndV, aOrV, aNotV, aChn, aDrop, aRet, aRetN, aIf, agName, agNil, agCons, agTup, aAsg, aPar, aAug, aFor, aRng1, aRng2, aIter, aLc, aYes,
  aCl, aMt, aMk, aFl, aFst, aNeg, aI2, aI20, aLe, aLt, aGt, aGe, aSub, aMod, aMul, aFdv, aPow, aXor, aShl, aShr, agSub, aoN, aoS, aSl, aRev, aLen, aList, aTupOf, aLRg1, aLRg2, aAbs, aI2N, aMax, aMin, aDm, aAll, aAny, aBM, aApp, aPopAt, aPop, aClear, aRevM, aExt, aRepr, aClD, aLnSt, aIAdd, aBreak, aCont,
  aEnd, startA, List.map_cons, List.map_nil, List.cons_append, List.nil_append, List.length_cons, List.length_nil, List.replicate, List.getElem?_cons_zero, List.getElem?_cons_succ, List.set_cons_zero, List.set_cons_succ, Nat.reduceAdd, Nat.reduceSub, Nat.succ_eq_add_one, Int.reduceAdd, Int.reduceMul,
  reduceIte, Bool.false_eq_true, Bool.not_true, Bool.not_false, ite_true, ite_false])
local macro_rules | `(tactic| walk_at "A.hop") => `(tactic| try simp only [aMtF, aFmt, aJs, aEqO, aNeO, aReprF, aRevT, aIsiT, aInt, aStrI, aEnum, aZip, aMulL, aCount, aAugS, aSetOf, aSrtSet, aSum, aDNew, aDIn, aDIx, aDPut, aLenD, aListD, aBits, aDsp1, aBool, aSorted, wipeA, aSeq, aNext, aSet, aVar, atV_s, onB_b, onI_i, onII_i, onL1_i, onL2_i, it_l, it_t, it_s, it_x, ix_l, ix_t, ix_s, add_i, add_x, eq_i, eq_x, eq_b, is_b, aC, aNil, aCons, aOp, aUn, aTup, aLst, aCB, aNot, aAnd, aOr, aTst, aIfE, aAndV, aOrV, aNotV, aChn, aDrop, aRet, aRetN, aIf, agName, agNil, agCons, agTup, aAsg, aPar, aAug, aFor, aRng1, aRng2, aIter, aLc, aYes,
  aCl, aMt, aMk, aFl, aFst, aNeg, aI2, aI20, aLe, aLt, aGt, aGe, aSub, aMod, aMul, aFdv, aPow, aXor, aShl, aShr, agSub, aoN, aoS, aSl, aRev, aLen, aList, aTupOf, aLRg1, aLRg2, aAbs, aI2N, aMax, aMin, aDm, aAll, aAny, aBM, aApp, aPopAt, aPop, aClear, aRevM, aExt, aRepr, aClD, aLnSt, aIAdd, aBreak, aCont,
  aEnd, startA, List.map_cons, List.map_nil, List.cons_append, List.nil_append, List.length_cons, List.length_nil, List.replicate, List.getElem?_cons_zero, List.getElem?_cons_succ, List.set_cons_zero, List.set_cons_succ, Nat.reduceAdd, Nat.reduceSub, Nat.succ_eq_add_one, Int.reduceAdd, Int.reduceMul,
  reduceIte, Bool.false_eq_true, Bool.not_true, Bool.not_false, ite_true, ite_false])
local macro_rules | `(tactic| walk_at "A.lop") => `(tactic| try simp only [decide_true, decide_false, aMtF, aFmt, aJs, aEqO, aNeO, aReprF, aRevT, aIsiT, aInt, aStrI, aEnum, aZip, aMulL, aCount, aAugS, aSetOf, aSrtSet, aSum, aDNew, aDIn, aDIx, aDPut, aLenD, aListD, aBits, aDsp1, aBool, aSorted, wipeA, aSeq, aNext, aSet, aVar, atV_s, onB_b, onI_i, onII_i, onL1_i, onL2_i, it_l, it_t, it_s, it_x, ix_l, ix_t, ix_s, add_i, add_x, eq_i, eq_x, eq_b, is_b, aC, aNil, aCons, aOp, aUn, aTup, aLst, aCB, aNot, aAnd, aOr, aTst, aIfE, aAndV, aOrV, aNotV, aChn, aDrop, aRet, aRetN, aIf, agName, agNil, agCons, agTup, aAsg, aPar, aAug, aFor, aRng1, aRng2, aIter, aLc, aYes,
  aCl, aMt, aMk, aFl, aFst, aNeg, aI2, aI20, aLe, aLt, aGt, aGe, aSub, aMod, aMul, aFdv, aPow, aXor, aShl, aShr, agSub, aoN, aoS, aSl, aRev, aLen, aList, aTupOf, aLRg1, aLRg2, aAbs, aI2N, aMax, aMin, aDm, aBM, aApp, aPopAt, aPop, aClear, aRevM, aExt, aClD, aLnSt, aIAdd, aBreak, aCont,
  aEnd, startA, List.map_cons, List.map_nil, List.cons_append, List.nil_append, List.length_cons, List.length_nil, List.replicate, List.getElem?_cons_zero, List.getElem?_cons_succ, List.set_cons_zero, List.set_cons_succ, Nat.reduceAdd, Nat.reduceSub, Nat.succ_eq_add_one, Int.reduceAdd, Int.reduceMul,
  reduceIte, Bool.false_eq_true, Bool.not_true, Bool.not_false, ite_true, ite_false])
def sp_takeX (K : PySem.W.Frag) : SpA := fun ds S Q E => ∃ p m, ds = [.own p, .int m] ∧ S p = some .pot ∧ 0 < m ∧ m < 2 ^ 110 ∧ ∀ d, 0 ≤ d → d < m → Q (.int d) S
theorem len_takeX (K : PySem.W.Frag) : ∀ ds S Q E, sp_takeX K ds S Q E → ds.length = 2 := by rintro ds S Q E ⟨p, m, rfl, _⟩; rfl
def a_takeX (K : PySem.W.Frag) : AS := (aSeq (aIf (aTst (aOp aGt (aOp aIx (aVar 0) (aC (.int 0))) (aC (.int 0)))) (aSeq (aAsg (aCB aDm (aCons (aOp aIx (aVar 0) (aC (.int 0))) (aCons (aVar 1) aNil))) (agTup 2 (agCons (agSub (aVar 0) (aC (.int 0))) (agCons (agName 2) agNil))))
 (aRet (aVar 2))) aNext)
 (aSeq (aAsg (aOp aMod (aOp aAdd (aOp aMul (aOp aIx (aVar 0) (aC (.int 1))) (aC (.int 48271))) (aC (.int 10007))) (aC (.int 2147483587))) (agSub (aVar 0) (aC (.int 1))))
 (aRet (aOp aMod (aOp aFdv (aOp aMod (aOp aMul (aOp aIx (aVar 0) (aC (.int 1))) (aOp aIx (aVar 0) (aC (.int 1)))) (aC (.int 2147483563))) (aC (.int 3))) (aVar 1)))))
theorem law_takeX (K : PySem.W.Frag) : ∀ ds S Q E, sp_takeX K ds S Q E → a_takeX K (aEnd Q E) (startA ["_law_pot_here", "_law_many", "_law_digit"] ds) S := by
  rintro ds S Q E ⟨p, m, rfl, hp, m0, m1, q⟩
  unfold a_takeX
  walk_at "A.go"
  refine ix_pot hp fun x y h => ⟨x, rfl, ?_⟩
  walk_at "A.go"
  split
  · rename_i hx
    refine ix_pot hp fun x y h => ⟨x, rfl, ?_⟩
    walk_at "A.go"
    have hm : m.natAbs.log2 < 9000 := Nat.lt_of_lt_of_le (log2_small (k := 110) (by omega) (by decide)) (by decide)
    have h1 := Int.emod_nonneg x (show m ≠ 0 by omega)
    have h2 := Int.emod_lt_of_pos x m0
    have h0 := Int.ediv_nonneg h.1 (Int.le_of_lt m0)
    refine ⟨cdivp m0 hm, _, rfl, rfl, put_pot0 hp h0 ?_ ⟨rfl, ret (q _ h1 h2)⟩⟩
    refine log2_le (n := x.natAbs) ?_ h.2.1
    have h3 : x / m ≤ x := Int.ediv_le_self m h.1
    have h4 := h.1
    omega
  · refine ix_pot hp fun x y h => ⟨y, rfl, ?_⟩
    walk_at "A.go"
    obtain ⟨h1, h2, h3, h4⟩ := h
    have b1 := Int.emod_nonneg (y * 48271 + 10007) (show (2147483587 : Int) ≠ 0 by decide)
    have b2 := Int.emod_lt_of_pos (y * 48271 + 10007) (show (0 : Int) < 2147483587 by decide)
    refine ⟨.inr (by decide), by decide, put_pot1 hp b1 (by omega) (ix_pot hp fun x' y' h' => ⟨y', rfl, ix_pot hp fun x'' y'' h'' => ⟨y'', rfl, ?_⟩⟩)⟩
    walk_at "A.go"
    refine ⟨.inl ?_, by decide, ⟨by decide, by decide⟩, m0, ret (q _ (Int.emod_nonneg _ (by omega)) (Int.emod_lt_of_pos _ m0))⟩
    obtain ⟨_, _, g1, g2⟩ := h'
    exact ⟨by omega, by omega⟩
end A

/-! ## displays without a walk: what is told at once; draws within them -/
namespace A
open PySem PySem.Spec L2 PyProof.Rows
local macro_rules | `(tactic| walk_at "A.go") => `(tactic| simp only [aSeq, aNext, aSet, aVar, atV_s, onB_b, onI_i, onII_i, onL1_i, onL2_i, it_l, it_t, it_s, it_x, ix_l, ix_t, ix_s, add_i, add_x, eq_i, eq_x, eq_b, is_b, aC, aNil, aCons, aOp, aUn, aTup, aLst, aCB, aNot, aAnd, aOr, aTst, aIfE, aAndV, aOrV, aNotV, aChn, aDrop, aRet, aRetN, aIf, agName, agNil, agCons, agTup, aAsg, aPar, aAug, aFor, aRng1, aRng2, aIter, aLc, aYes,
  aCl, aMt, aMk, aFl, aFst, aNeg, aI2, aI20, aLe, aLt, aGt, aGe, aSub, aMod, aMul, aFdv, aPow, aXor, aShl, aShr, agSub, aoN, aoS, aSl, aRev, aLen, aList, aTupOf, aLRg1, aLRg2, aAbs, aI2N, aMax, aMin, aDm, aAll, aAny, aBM, aApp, aPopAt, aPop, aClear, aRevM, aExt, aRepr, aClD, aLnSt, aIAdd, aBreak, aCont,
  aEnd, startA, List.map_cons, List.map_nil, List.cons_append, List.nil_append, List.length_cons, List.length_nil, List.replicate, List.getElem?_cons_zero, List.getElem?_cons_succ, List.set_cons_zero, List.set_cons_succ, Nat.reduceAdd, Nat.reduceSub, Nat.succ_eq_add_one, Int.reduceAdd, Int.reduceMul,
  reduceIte, Bool.false_eq_true, Bool.not_true, Bool.not_false, ite_true, ite_false])
local macro_rules | `(tactic| walk_at "A.hop") => `(tactic| try simp only [aMtF, aFmt, aJs, aEqO, aNeO, aReprF, aRevT, aIsiT, aInt, aStrI, aEnum, aZip, aMulL, aCount, aAugS, aSetOf, aSrtSet, aSum, aDNew, aDIn, aDIx, aDPut, aLenD, aListD, aBits, aDsp1, aBool, aSorted, wipeA, aSeq, aNext, aSet, aVar, atV_s, onB_b, onI_i, onII_i, onL1_i, onL2_i, it_l, it_t, it_s, it_x, ix_l, ix_t, ix_s, add_i, add_x, eq_i, eq_x, eq_b, is_b, aC, aNil, aCons, aOp, aUn, aTup, aLst, aCB, aNot, aAnd, aOr, aTst, aIfE, aAndV, aOrV, aNotV, aChn, aDrop, aRet, aRetN, aIf, agName, agNil, agCons, agTup, aAsg, aPar, aAug, aFor, aRng1, aRng2, aIter, aLc, aYes,
  aCl, aMt, aMk, aFl, aFst, aNeg, aI2, aI20, aLe, aLt, aGt, aGe, aSub, aMod, aMul, aFdv, aPow, aXor, aShl, aShr, agSub, aoN, aoS, aSl, aRev, aLen, aList, aTupOf, aLRg1, aLRg2, aAbs, aI2N, aMax, aMin, aDm, aAll, aAny, aBM, aApp, aPopAt, aPop, aClear, aRevM, aExt, aRepr, aClD, aLnSt, aIAdd, aBreak, aCont,
  aEnd, startA, List.map_cons, List.map_nil, List.cons_append, List.nil_append, List.length_cons, List.length_nil, List.replicate, List.getElem?_cons_zero, List.getElem?_cons_succ, List.set_cons_zero, List.set_cons_succ, Nat.reduceAdd, Nat.reduceSub, Nat.succ_eq_add_one, Int.reduceAdd, Int.reduceMul,
  reduceIte, Bool.false_eq_true, Bool.not_true, Bool.not_false, ite_true, ite_false])
local macro_rules | `(tactic| walk_at "A.lop") => `(tactic| try simp only [decide_true, decide_false, aMtF, aFmt, aJs, aEqO, aNeO, aReprF, aRevT, aIsiT, aInt, aStrI, aEnum, aZip, aMulL, aCount, aAugS, aSetOf, aSrtSet, aSum, aDNew, aDIn, aDIx, aDPut, aLenD, aListD, aBits, aDsp1, aBool, aSorted, wipeA, aSeq, aNext, aSet, aVar, atV_s, onB_b, onI_i, onII_i, onL1_i, onL2_i, it_l, it_t, it_s, it_x, ix_l, ix_t, ix_s, add_i, add_x, eq_i, eq_x, eq_b, is_b, aC, aNil, aCons, aOp, aUn, aTup, aLst, aCB, aNot, aAnd, aOr, aTst, aIfE, aAndV, aOrV, aNotV, aChn, aDrop, aRet, aRetN, aIf, agName, agNil, agCons, agTup, aAsg, aPar, aAug, aFor, aRng1, aRng2, aIter, aLc, aYes,
  aCl, aMt, aMk, aFl, aFst, aNeg, aI2, aI20, aLe, aLt, aGt, aGe, aSub, aMod, aMul, aFdv, aPow, aXor, aShl, aShr, agSub, aoN, aoS, aSl, aRev, aLen, aList, aTupOf, aLRg1, aLRg2, aAbs, aI2N, aMax, aMin, aDm, aBM, aApp, aPopAt, aPop, aClear, aRevM, aExt, aClD, aLnSt, aIAdd, aBreak, aCont,
  aEnd, startA, List.map_cons, List.map_nil, List.cons_append, List.nil_append, List.length_cons, List.length_nil, List.replicate, List.getElem?_cons_zero, List.getElem?_cons_succ, List.set_cons_zero, List.set_cons_succ, Nat.reduceAdd, Nat.reduceSub, Nat.succ_eq_add_one, Int.reduceAdd, Int.reduceMul,
  reduceIte, Bool.false_eq_true, Bool.not_true, Bool.not_false, ite_true, ite_false])
section
variable {e : AE} {r : AA} {ρ : En} {S : Sto} {v : D} {vs : List D}
variable {K : PySem.W.Frag} {e0 e1 : AE} {p : Addr} {m i j : Int} {Q : KD} {E : KX} {l : List D}
end
section
variable {K : PySem.W.Frag} {ρ : En} {S : Sto} {e e0 e1 : AE} {r : AA} {p : Addr} {m i : Int} {P P' : Int → Prop} {Q : List D → Sto → Prop} {E : KX}
end
end A

/-! ## odd data: what it is read as, what it is; in a greater store too -/
namespace A
open PySem PySem.Spec L2 PyProof.Rows
local macro_rules | `(tactic| walk_at "A.go") => `(tactic| simp only [aSeq, aNext, aSet, aVar, atV_s, onB_b, onI_i, onII_i, onL1_i, onL2_i, it_l, it_t, it_s, it_x, ix_l, ix_t, ix_s, add_i, add_x, eq_i, eq_x, eq_b, is_b, aC, aNil, aCons, aOp, aUn, aTup, aLst, aCB, aNot, aAnd, aOr, aTst, aIfE, aAndV, aOrV, aNotV, aChn, aDrop, aRet, aRetN, aIf, agName, agNil, agCons, agTup, aAsg, aPar, aAug, aFor, aRng1, aRng2, aIter, aLc, aYes,
  aCl, aMt, aMk, aFl, aFst, aNeg, aI2, aI20, aLe, aLt, aGt, aGe, aSub, aMod, aMul, aFdv, aPow, aXor, aShl, aShr, agSub, aoN, aoS, aSl, aRev, aLen, aList, aTupOf, aLRg1, aLRg2, aAbs, aI2N, aMax, aMin, aDm, aAll, aAny, aBM, aApp, aPopAt, aPop, aClear, aRevM, aExt, aRepr, aClD, aLnSt, aIAdd, aBreak, aCont,
  aEnd, startA, List.map_cons, List.map_nil, List.cons_append, List.nil_append, List.length_cons, List.length_nil, List.replicate, List.getElem?_cons_zero, List.getElem?_cons_succ, List.set_cons_zero, List.set_cons_succ, Nat.reduceAdd, Nat.reduceSub, Nat.succ_eq_add_one, Int.reduceAdd, Int.reduceMul,
  reduceIte, Bool.false_eq_true, Bool.not_true, Bool.not_false, ite_true, ite_false])
local macro_rules | `(tactic| walk_at "A.hop") => `(tactic| try simp only [aMtF, aFmt, aJs, aEqO, aNeO, aReprF, aRevT, aIsiT, aInt, aStrI, aEnum, aZip, aMulL, aCount, aAugS, aSetOf, aSrtSet, aSum, aDNew, aDIn, aDIx, aDPut, aLenD, aListD, aBits, aDsp1, aBool, aSorted, wipeA, aSeq, aNext, aSet, aVar, atV_s, onB_b, onI_i, onII_i, onL1_i, onL2_i, it_l, it_t, it_s, it_x, ix_l, ix_t, ix_s, add_i, add_x, eq_i, eq_x, eq_b, is_b, aC, aNil, aCons, aOp, aUn, aTup, aLst, aCB, aNot, aAnd, aOr, aTst, aIfE, aAndV, aOrV, aNotV, aChn, aDrop, aRet, aRetN, aIf, agName, agNil, agCons, agTup, aAsg, aPar, aAug, aFor, aRng1, aRng2, aIter, aLc, aYes,
  aCl, aMt, aMk, aFl, aFst, aNeg, aI2, aI20, aLe, aLt, aGt, aGe, aSub, aMod, aMul, aFdv, aPow, aXor, aShl, aShr, agSub, aoN, aoS, aSl, aRev, aLen, aList, aTupOf, aLRg1, aLRg2, aAbs, aI2N, aMax, aMin, aDm, aAll, aAny, aBM, aApp, aPopAt, aPop, aClear, aRevM, aExt, aRepr, aClD, aLnSt, aIAdd, aBreak, aCont,
  aEnd, startA, List.map_cons, List.map_nil, List.cons_append, List.nil_append, List.length_cons, List.length_nil, List.replicate, List.getElem?_cons_zero, List.getElem?_cons_succ, List.set_cons_zero, List.set_cons_succ, Nat.reduceAdd, Nat.reduceSub, Nat.succ_eq_add_one, Int.reduceAdd, Int.reduceMul,
  reduceIte, Bool.false_eq_true, Bool.not_true, Bool.not_false, ite_true, ite_false])
local macro_rules | `(tactic| walk_at "A.lop") => `(tactic| try simp only [decide_true, decide_false, aMtF, aFmt, aJs, aEqO, aNeO, aReprF, aRevT, aIsiT, aInt, aStrI, aEnum, aZip, aMulL, aCount, aAugS, aSetOf, aSrtSet, aSum, aDNew, aDIn, aDIx, aDPut, aLenD, aListD, aBits, aDsp1, aBool, aSorted, wipeA, aSeq, aNext, aSet, aVar, atV_s, onB_b, onI_i, onII_i, onL1_i, onL2_i, it_l, it_t, it_s, it_x, ix_l, ix_t, ix_s, add_i, add_x, eq_i, eq_x, eq_b, is_b, aC, aNil, aCons, aOp, aUn, aTup, aLst, aCB, aNot, aAnd, aOr, aTst, aIfE, aAndV, aOrV, aNotV, aChn, aDrop, aRet, aRetN, aIf, agName, agNil, agCons, agTup, aAsg, aPar, aAug, aFor, aRng1, aRng2, aIter, aLc, aYes,
  aCl, aMt, aMk, aFl, aFst, aNeg, aI2, aI20, aLe, aLt, aGt, aGe, aSub, aMod, aMul, aFdv, aPow, aXor, aShl, aShr, agSub, aoN, aoS, aSl, aRev, aLen, aList, aTupOf, aLRg1, aLRg2, aAbs, aI2N, aMax, aMin, aDm, aBM, aApp, aPopAt, aPop, aClear, aRevM, aExt, aClD, aLnSt, aIAdd, aBreak, aCont,
  aEnd, startA, List.map_cons, List.map_nil, List.cons_append, List.nil_append, List.length_cons, List.length_nil, List.replicate, List.getElem?_cons_zero, List.getElem?_cons_succ, List.set_cons_zero, List.set_cons_succ, Nat.reduceAdd, Nat.reduceSub, Nat.succ_eq_add_one, Int.reduceAdd, Int.reduceMul,
  reduceIte, Bool.false_eq_true, Bool.not_true, Bool.not_false, ite_true, ite_false])
/-- reads as data, dicts too, of at most so much -/
def GdG (S : Sto) (n B : Nat) (d : D) : Prop := ∃ p, rdG S n d = some p ∧ p.showable = true ∧ p.leavesShort 60 = true ∧ p.weight ≤ B
theorem rdL_imp {f g : D → Option PyData} (h : ∀ d p, f d = some p → g d = some p) : ∀ {l : List D} {q : List PyData}, rdL f l = some q → rdL g l = some q
  | [], _, e => e
  | d :: l, q, e => by
    unfold rdL at e ⊢
    cases e1 : f d with
    | none => rw [e1] at e; cases e
    | some p =>
      cases e2 : rdL f l with
      | none => rw [e1, e2] at e; cases e
      | some q' =>
        rw [e1, e2] at e
        rw [h d p e1, rdL_imp h e2]
        exact e
theorem rdG_imp {S T : Sto} (sb : Sub S T) {n m : Nat} (ih : ∀ d p, rdG S n d = some p → rdG T m d = some p) : ∀ d p, rdG S (n + 1) d = some p → rdG T (m + 1) d = some p := by
  intro d p e
  have via : ∀ {α : Type} {l : List D} {g : List PyData → α} {x : α}, (rdL (rdG S n) l).map g = some x → (rdL (rdG T m) l).map g = some x := fun {α l g x} e => by
    obtain ⟨q, e1, e2⟩ := Option.map_eq_some_iff.mp e
    rw [rdL_imp ih e1]
    exact congrArg some e2
  cases d with
  | lst l => exact via (g := PyData.list) e
  | tup l => exact via (g := PyData.tuple) e
  | own a =>
    have e : (match S a with
        | some (.lst l) => (rdL (rdG S n) l).map PyData.list
        | some (.dct m) => (rdL (rdG S n) (m.map (·.2))).map fun qs => PyData.dict ((m.map fun p => keyP p.1).zip qs)
        | _ => none) = some p := e
    show (match T a with
        | some (.lst l) => (rdL (rdG T m) l).map PyData.list
        | some (.dct k) => (rdL (rdG T m) (k.map (·.2))).map fun qs => PyData.dict ((k.map fun p => keyP p.1).zip qs)
        | _ => none) = some p
    cases hS : S a with
    | none => rw [hS] at e; cases e
    | some c =>
      rw [hS] at e
      rw [sb _ _ hS]
      cases c with
      | lst l => exact via (g := PyData.list) e
      | dct k => exact via e
      | _ => cases e
  | _ => exact e
theorem rdG_sub {S T : Sto} (sb : Sub S T) : ∀ (n : Nat) (d : D) (p : PyData), rdG S n d = some p → rdG T n d = some p
  | 0, _, _, e => by cases e
  | n + 1, d, p, e => rdG_imp sb (rdG_sub sb n) d p e
theorem rdG_up {S : Sto} : ∀ {n m : Nat}, n ≤ m → ∀ (d : D) (p : PyData), rdG S n d = some p → rdG S m d = some p
  | 0, _, _, _, _, e => by cases e
  | n + 1, m + 1, h, d, p, e => rdG_imp (Sub.refl S) (rdG_up (Nat.le_of_succ_le_succ h)) d p e
section
variable {S T : Sto} {n m B C : Nat} {d : D}
theorem GdG.sub (h : GdG S n B d) (sb : Sub S T) : GdG T n B d := by
  obtain ⟨p, h1, h2⟩ := h
  exact ⟨p, rdG_sub sb _ _ _ h1, h2⟩
theorem GdG.up (h : GdG S n B d) (hn : n ≤ m) (hB : B ≤ C) : GdG S m C d := by
  obtain ⟨p, h1, h2, h3, h4⟩ := h
  exact ⟨p, rdG_up hn _ _ h1, h2, h3, Nat.le_trans h4 hB⟩
theorem gdG_all : ∀ {l : List D}, (∀ x ∈ l, GdG S n B x) → ∃ qs, rdL (rdG S n) l = some qs ∧ PyData.showableAll qs = true ∧ PyData.leavesShortAll 60 qs = true ∧ PyData.weightAll qs ≤ (B + 1) * l.length
  | [], _ => ⟨[], rfl, rfl, rfl, Nat.zero_le _⟩
  | x :: l, h => by
    obtain ⟨q, h1, h2, h3, h4⟩ := h x List.mem_cons_self
    obtain ⟨qs, k1, k2, k3, k4⟩ := gdG_all fun y hy => h y (List.mem_cons_of_mem _ hy)
    refine ⟨q :: qs, ?_, ?_, ?_, ?_⟩
    · unfold rdL; rw [h1, k1]
    · simp only [PyData.showableAll, h2, k2, Bool.and_self]
    · simp only [PyData.leavesShortAll, h3, k3, Bool.and_self]
    · simp only [PyData.weightAll, List.length_cons, Nat.mul_succ]; omega
theorem gdG_lst {l : List D} (h : ∀ x ∈ l, GdG S n B x) (hl : (B + 1) * l.length ≤ C) : GdG S (n + 1) C (.lst l) := by
  obtain ⟨qs, k1, k2, k3, k4⟩ := gdG_all h
  refine ⟨.list qs, ?_, by simp only [PyData.showable]; exact k2, by simp only [PyData.leavesShort]; exact k3, by simp only [PyData.weight]; omega⟩
  show (rdL (rdG S n) l).map PyData.list = _
  rw [k1]
  rfl
theorem gdG_int {i : Int} (h : i.natAbs < 10 ^ 40) : GdG S (n + 1) 200 (.int i) := by
  refine ⟨.int i, rfl, ?_, ?_, ?_⟩
  · simp only [PyData.showable]
    by_cases c : i.natAbs = 0
    · rw [c]; decide
    · exact decide_eq_true (Nat.lt_of_lt_of_le ((Nat.log2_lt c).mpr (Nat.lt_of_lt_of_le h (by decide : 10 ^ 40 ≤ 2 ^ 140))) (by decide))
  · simp only [PyData.leavesShort]
    have e := int_text_length_le10 (k := 40) (by decide) h
    have z : (PyData.shown (.int i)).length ≤ 41 := by
      show (Str.ofString (toString i)).length ≤ 41
      rw [PySem.ofString_length]; exact e
    exact decide_eq_true (Nat.le_trans z (by decide))
  · simp only [PyData.weight]
    split
    · omega
    · have : i.natAbs.log2 < 140 := (Nat.log2_lt (by rename_i c; simpa using c)).mpr (Nat.lt_of_lt_of_le h (by decide))
      omega
/-- small data -/
def Sm (S : Sto) (n B : Nat) (d : D) : Prop := ∃ p, rd S n d = some p ∧ sml p = true ∧ p.weight ≤ B
theorem rd_up {S : Sto} : ∀ {n m : Nat}, n ≤ m → ∀ (d : D) (p : PyData), rd S n d = some p → rd S m d = some p
  | 0, _, _, _, _, e => by cases e
  | n + 1, m + 1, h, d, p, e => by
    have ih := fun d p => rd_up (S := S) (Nat.le_of_succ_le_succ h) d p
    have via : ∀ {l : List D} {g : List PyData → PyData} {x : PyData}, (rdL (rd S n) l).map g = some x → (rdL (rd S m) l).map g = some x := fun {l g x} e => by
      obtain ⟨q, e1, e2⟩ := Option.map_eq_some_iff.mp e
      rw [rdL_imp ih e1]
      exact congrArg some e2
    cases d with
    | lst l => exact via (g := PyData.list) e
    | tup l => exact via (g := PyData.tuple) e
    | own a =>
      have e : (match S a with | some (.lst l) => (rdL (rd S n) l).map PyData.list | _ => none) = some p := e
      show (match S a with | some (.lst l) => (rdL (rd S m) l).map PyData.list | _ => none) = some p
      cases hS : S a with
      | none => rw [hS] at e; cases e
      | some c =>
        rw [hS] at e
        cases c with
        | lst l => exact via (g := PyData.list) e
        | _ => cases e
    | _ => exact e
theorem Sm.up (h : Sm S n B d) (hn : n ≤ m) (hB : B ≤ C) : Sm S m C d := by
  obtain ⟨p, h1, h2, h3⟩ := h
  exact ⟨p, rd_up hn _ _ h1, h2, Nat.le_trans h3 hB⟩
/-! ### kinds -/
theorem tyD_sub {S S' : Sto} {d : D} {t : Value} (h : Sub S S') (e : tyD S d = some t) : tyD S' d = some t := by
  cases d with
  | own a =>
    unfold tyD at e ⊢
    cases c : S a with
    | none => simp only [c] at e; cases e
    | some x =>
      simp only [c] at e
      simp only [h _ _ c]
      exact e
  | _ => exact e
theorem Knd.sub {S S' : Sto} {d : D} (e : Knd S d) (h : Sub S S') : Knd S' d := e.imp fun n z => ⟨z.1, tyD_sub h z.2⟩
end
end A

namespace A
open PySem PySem.Spec L2 PyProof.Rows
local macro_rules | `(tactic| walk_at "A.go") => `(tactic| simp only [aSeq, aNext, aSet, aVar, atV_s, onB_b, onI_i, onII_i, onL1_i, onL2_i, it_l, it_t, it_s, it_x, ix_l, ix_t, ix_s, add_i, add_x, eq_i, eq_x, eq_b, is_b, aC, aNil, aCons, aOp, aUn, aTup, aLst, aCB, aNot, aAnd, aOr, aTst, aIfE, aAndV, aOrV, aNotV, aChn, aDrop, aRet, aRetN, aIf, agName, agNil, agCons, agTup, aAsg, aPar, aAug, aFor, aRng1, aRng2, aIter, aLc, aYes,
  aCl, aMt, aMk, aFl, aFst, aNeg, aI2, aI20, aLe, aLt, aGt, aGe, aSub, aMod, aMul, aFdv, aPow, aXor, aShl, aShr, agSub, aoN, aoS, aSl, aRev, aLen, aList, aTupOf, aLRg1, aLRg2, aAbs, aI2N, aMax, aMin, aDm, aAll, aAny, aBM, aApp, aPopAt, aPop, aClear, aRevM, aExt, aRepr, aClD, aLnSt, aIAdd, aBreak, aCont,
  aEnd, startA, List.map_cons, List.map_nil, List.cons_append, List.nil_append, List.length_cons, List.length_nil, List.replicate, List.getElem?_cons_zero, List.getElem?_cons_succ, List.set_cons_zero, List.set_cons_succ, Nat.reduceAdd, Nat.reduceSub, Nat.succ_eq_add_one, Int.reduceAdd, Int.reduceMul,
  reduceIte, Bool.false_eq_true, Bool.not_true, Bool.not_false, ite_true, ite_false])
local macro_rules | `(tactic| walk_at "A.hop") => `(tactic| try simp only [aMtF, aFmt, aJs, aEqO, aNeO, aReprF, aRevT, aIsiT, aInt, aStrI, aEnum, aZip, aMulL, aCount, aAugS, aSetOf, aSrtSet, aSum, aDNew, aDIn, aDIx, aDPut, aLenD, aListD, aBits, aDsp1, aBool, aSorted, wipeA, aSeq, aNext, aSet, aVar, atV_s, onB_b, onI_i, onII_i, onL1_i, onL2_i, it_l, it_t, it_s, it_x, ix_l, ix_t, ix_s, add_i, add_x, eq_i, eq_x, eq_b, is_b, aC, aNil, aCons, aOp, aUn, aTup, aLst, aCB, aNot, aAnd, aOr, aTst, aIfE, aAndV, aOrV, aNotV, aChn, aDrop, aRet, aRetN, aIf, agName, agNil, agCons, agTup, aAsg, aPar, aAug, aFor, aRng1, aRng2, aIter, aLc, aYes,
  aCl, aMt, aMk, aFl, aFst, aNeg, aI2, aI20, aLe, aLt, aGt, aGe, aSub, aMod, aMul, aFdv, aPow, aXor, aShl, aShr, agSub, aoN, aoS, aSl, aRev, aLen, aList, aTupOf, aLRg1, aLRg2, aAbs, aI2N, aMax, aMin, aDm, aAll, aAny, aBM, aApp, aPopAt, aPop, aClear, aRevM, aExt, aRepr, aClD, aLnSt, aIAdd, aBreak, aCont,
  aEnd, startA, List.map_cons, List.map_nil, List.cons_append, List.nil_append, List.length_cons, List.length_nil, List.replicate, List.getElem?_cons_zero, List.getElem?_cons_succ, List.set_cons_zero, List.set_cons_succ, Nat.reduceAdd, Nat.reduceSub, Nat.succ_eq_add_one, Int.reduceAdd, Int.reduceMul,
  reduceIte, Bool.false_eq_true, Bool.not_true, Bool.not_false, ite_true, ite_false])
local macro_rules | `(tactic| walk_at "A.lop") => `(tactic| try simp only [decide_true, decide_false, aMtF, aFmt, aJs, aEqO, aNeO, aReprF, aRevT, aIsiT, aInt, aStrI, aEnum, aZip, aMulL, aCount, aAugS, aSetOf, aSrtSet, aSum, aDNew, aDIn, aDIx, aDPut, aLenD, aListD, aBits, aDsp1, aBool, aSorted, wipeA, aSeq, aNext, aSet, aVar, atV_s, onB_b, onI_i, onII_i, onL1_i, onL2_i, it_l, it_t, it_s, it_x, ix_l, ix_t, ix_s, add_i, add_x, eq_i, eq_x, eq_b, is_b, aC, aNil, aCons, aOp, aUn, aTup, aLst, aCB, aNot, aAnd, aOr, aTst, aIfE, aAndV, aOrV, aNotV, aChn, aDrop, aRet, aRetN, aIf, agName, agNil, agCons, agTup, aAsg, aPar, aAug, aFor, aRng1, aRng2, aIter, aLc, aYes,
  aCl, aMt, aMk, aFl, aFst, aNeg, aI2, aI20, aLe, aLt, aGt, aGe, aSub, aMod, aMul, aFdv, aPow, aXor, aShl, aShr, agSub, aoN, aoS, aSl, aRev, aLen, aList, aTupOf, aLRg1, aLRg2, aAbs, aI2N, aMax, aMin, aDm, aBM, aApp, aPopAt, aPop, aClear, aRevM, aExt, aClD, aLnSt, aIAdd, aBreak, aCont,
  aEnd, startA, List.map_cons, List.map_nil, List.cons_append, List.nil_append, List.length_cons, List.length_nil, List.replicate, List.getElem?_cons_zero, List.getElem?_cons_succ, List.set_cons_zero, List.set_cons_succ, Nat.reduceAdd, Nat.reduceSub, Nat.succ_eq_add_one, Int.reduceAdd, Int.reduceMul,
  reduceIte, Bool.false_eq_true, Bool.not_true, Bool.not_false, ite_true, ite_false])
/-- a text of small letters -/
def Lw (w : Str) : Prop := ∃ cs : List Nat, w = ⟨cs.toArray⟩ ∧ cs.length ≤ 8 ∧ ∀ c ∈ cs, 97 ≤ c ∧ c ≤ 122
/-- what the exceptions keep -/
def fld17 (n o : Int) (w : Str) : Nat → List (Str × D)
  | 0 => [("what", .str w), ("who", .int o)]
  | 5 => [("row", .int n)]
  | 7 => [("who", .int n)]
  | 8 => [("who", .str w)]
  | 9 => [("who", .int o)]
  | 10 => [("limit", .int n)]
  | _ => []
/-- an exception of the class k -/
def X17 (K : PySem.W.Frag) (n o : Int) (w : Str) (k : Nat) (e : D) : Prop := k < 11 ∧ ∃ a d ns fs, e = .xv (C17 K k) a d ns fs ∧ ∀ p ∈ fld17 n o w k, (ns.zip fs).lookup p.1 = some p.2
def sp_among17 (K : PySem.W.Frag) : SpA := fun ds S Q E => ∃ p z, ds = [.own p, .str z] ∧ S p = some .pot ∧ 0 < z.length ∧ z.length ≤ 1000 ∧ ∀ c ∈ z.cps.toList, Q (.str ⟨#[c]⟩) S
theorem len_among17 (K : PySem.W.Frag) : ∀ ds S Q E, sp_among17 K ds S Q E → ds.length = 2 := by
  rintro ds S Q E ⟨_, _, rfl, _⟩
  rfl
def sp_word17 (K : PySem.W.Frag) : SpA := fun ds S Q E => ∃ p, ds = [.own p] ∧ S p = some .pot ∧ ∀ w, Lw w → Q (.str w) S
theorem len_word17 (K : PySem.W.Frag) : ∀ ds S Q E, sp_word17 K ds S Q E → ds.length = 1 := by
  rintro ds S Q E ⟨_, rfl, _⟩
  rfl
def sp_class17 (K : PySem.W.Frag) : SpA := fun ds S Q E => ∃ n o w k e, ds = [e] ∧ X17 K n o w k e ∧ KE17 K ∧ Q (.lst [.int (k : Nat)]) S
theorem len_class17 (K : PySem.W.Frag) : ∀ ds S Q E, sp_class17 K ds S Q E → ds.length = 1 := by
  rintro ds S Q E ⟨_, _, _, _, _, rfl, _⟩
  rfl
def sp_stands17 (K : PySem.W.Frag) : SpA := fun ds S Q E => ∃ n o w k e, ds = [e] ∧ X17 K n o w k e ∧ KE17 K ∧ Q (.lst ((dueL k).map .bl)) S
theorem len_stands17 (K : PySem.W.Frag) : ∀ ds S Q E, sp_stands17 K ds S Q E → ds.length = 1 := by
  rintro ds S Q E ⟨_, _, _, _, _, rfl, _⟩
  rfl
def sp_due17 (K : PySem.W.Frag) : SpA := fun ds S Q E => ∃ k, ds = [.int (k : Nat)] ∧ k < 11 ∧ Q (.lst ((dueL k).map .bl)) S
theorem len_due17 (K : PySem.W.Frag) : ∀ ds S Q E, sp_due17 K ds S Q E → ds.length = 1 := by
  rintro ds S Q E ⟨_, rfl, _⟩
  rfl
def sp_maderight17 (K : PySem.W.Frag) : SpA := fun ds S Q E => ∃ n o w d es, ds = [d, .str w, .int o, .int n] ∧ asL S d = some es ∧ es.length = 11 ∧ (∀ k e, es[k]? = some e → X17 K n o w k e) ∧ Lw w ∧ 0 ≤ n ∧ n < 10 ^ 30 ∧ 0 ≤ o ∧ o < 30 ∧ KE17 K ∧ Q (.bl true) S
theorem len_maderight17 (K : PySem.W.Frag) : ∀ ds S Q E, sp_maderight17 K ds S Q E → ds.length = 4 := by
  rintro ds S Q E ⟨_, _, _, _, _, rfl, _⟩
  rfl
def sp_right17 (K : PySem.W.Frag) : SpA := fun ds S Q E => ∃ p, ds = [.own p] ∧ S p = some .pot ∧ KE17 K ∧ Q (.bl true) S
theorem len_right17 (K : PySem.W.Frag) : ∀ ds S Q E, sp_right17 K ds S Q E → ds.length = 1 := by
  rintro ds S Q E ⟨_, rfl, _⟩
  rfl
def sp_law (K : PySem.W.Frag) : SpA := fun ds S Q E => ∃ ns, ds = [.scr ns] ∧ ns.length ≤ 63 ∧ Bits ns ∧ KE17 K ∧ Q (.bl true) S
theorem len_law (K : PySem.W.Frag) : ∀ ds S Q E, sp_law K ds S Q E → ds.length = 1 := by
  rintro ds S Q E ⟨_, rfl, _⟩
  rfl

def a_among17 (K : PySem.W.Frag) : AS := (aRet (aOp aIx (aVar 1) (aCl (sp_take K) (aCons (aVar 0) (aCons (aCB aLen (aCons (aVar 1) aNil)) aNil)))))
def a_word17 (K : PySem.W.Frag) : AS := (aSeq (aSet 1 (aC (.str "abcdefghijklmnopqrstuvwxyz")))
 (aRet (aBMs aJoin (aC (.str "")) (aCons (aLc (aRng1 (aCons (aCl (sp_take K) (aCons (aVar 0) (aCons (aC (.int 9)) aNil))) aNil)) (agName 2) aYes (aCl (sp_among17 K) (aCons (aVar 0) (aCons (aVar 1) aNil))) [2]) aNil))))
def a_class17 (K : PySem.W.Frag) : AS := (aSeq (aSet 1 (aLst (aCons (aCB (aIsX K (okX ["NoYard", "NoHeap", "NoOrder", "NotLeast", "NoTold", "NoText", "NoRow", "NoThing", "NoSuch", "NotAsked", "TooMany"] K)) (aCons (aVar 0) (aCons (aC (.own (He.ga K "NoYard"))) aNil))) (aCons (aCB (aIsX K (okX ["NoYard", "NoHeap", "NoOrder", "NotLeast", "NoTold", "NoText", "NoRow", "NoThing", "NoSuch", "NotAsked", "TooMany"] K)) (aCons (aVar 0) (aCons (aC (.own (He.ga K "NoHeap"))) aNil))) (aCons (aCB (aIsX K (okX ["NoYard", "NoHeap", "NoOrder", "NotLeast", "NoTold", "NoText", "NoRow", "NoThing", "NoSuch", "NotAsked", "TooMany"] K)) (aCons (aVar 0) (aCons (aC (.own (He.ga K "NoOrder"))) aNil))) (aCons (aCB (aIsX K (okX ["NoYard", "NoHeap", "NoOrder", "NotLeast", "NoTold", "NoText", "NoRow", "NoThing", "NoSuch", "NotAsked", "TooMany"] K)) (aCons (aVar 0) (aCons (aC (.own (He.ga K "NotLeast"))) aNil))) aNil))))))
 (aSeq (aSet 1 (aOp aAdd (aVar 1) (aLst (aCons (aCB (aIsX K (okX ["NoYard", "NoHeap", "NoOrder", "NotLeast", "NoTold", "NoText", "NoRow", "NoThing", "NoSuch", "NotAsked", "TooMany"] K)) (aCons (aVar 0) (aCons (aC (.own (He.ga K "NoTold"))) aNil))) (aCons (aCB (aIsX K (okX ["NoYard", "NoHeap", "NoOrder", "NotLeast", "NoTold", "NoText", "NoRow", "NoThing", "NoSuch", "NotAsked", "TooMany"] K)) (aCons (aVar 0) (aCons (aC (.own (He.ga K "NoText"))) aNil))) (aCons (aCB (aIsX K (okX ["NoYard", "NoHeap", "NoOrder", "NotLeast", "NoTold", "NoText", "NoRow", "NoThing", "NoSuch", "NotAsked", "TooMany"] K)) (aCons (aVar 0) (aCons (aC (.own (He.ga K "NoRow"))) aNil))) (aCons (aCB (aIsX K (okX ["NoYard", "NoHeap", "NoOrder", "NotLeast", "NoTold", "NoText", "NoRow", "NoThing", "NoSuch", "NotAsked", "TooMany"] K)) (aCons (aVar 0) (aCons (aC (.own (He.ga K "NoThing"))) aNil))) aNil)))))))
 (aSeq (aSet 1 (aOp aAdd (aVar 1) (aLst (aCons (aCB (aIsX K (okX ["NoYard", "NoHeap", "NoOrder", "NotLeast", "NoTold", "NoText", "NoRow", "NoThing", "NoSuch", "NotAsked", "TooMany"] K)) (aCons (aVar 0) (aCons (aC (.own (He.ga K "NoSuch"))) aNil))) (aCons (aCB (aIsX K (okX ["NoYard", "NoHeap", "NoOrder", "NotLeast", "NoTold", "NoText", "NoRow", "NoThing", "NoSuch", "NotAsked", "TooMany"] K)) (aCons (aVar 0) (aCons (aC (.own (He.ga K "NotAsked"))) aNil))) (aCons (aCB (aIsX K (okX ["NoYard", "NoHeap", "NoOrder", "NotLeast", "NoTold", "NoText", "NoRow", "NoThing", "NoSuch", "NotAsked", "TooMany"] K)) (aCons (aVar 0) (aCons (aC (.own (He.ga K "TooMany"))) aNil))) aNil))))))
 (aRet (aLc (aRng1 (aCons (aC (.int 11)) aNil)) (agName 2) (aTst (aOp aIx (aVar 1) (aVar 2))) (aVar 2) [2])))))
def a_stands17 (K : PySem.W.Frag) : AS := (aSeq (aSet 1 (aLst (aCons (aCB (aIsX K (okX ["NoYard", "NoHeap", "NoOrder", "NotLeast", "NoTold", "NoText", "NoRow", "NoThing", "NoSuch", "NotAsked", "TooMany"] K)) (aCons (aVar 0) (aCons (aC (.own (He.ga K "YardError"))) aNil))) (aCons (aCB (aIsX K (okX ["NoYard", "NoHeap", "NoOrder", "NotLeast", "NoTold", "NoText", "NoRow", "NoThing", "NoSuch", "NotAsked", "TooMany"] K)) (aCons (aVar 0) (aCons (aC (.ty "ValueError")) aNil))) (aCons (aCB (aIsX K (okX ["NoYard", "NoHeap", "NoOrder", "NotLeast", "NoTold", "NoText", "NoRow", "NoThing", "NoSuch", "NotAsked", "TooMany"] K)) (aCons (aVar 0) (aCons (aC (.ty "LookupError")) aNil))) (aCons (aCB (aIsX K (okX ["NoYard", "NoHeap", "NoOrder", "NotLeast", "NoTold", "NoText", "NoRow", "NoThing", "NoSuch", "NotAsked", "TooMany"] K)) (aCons (aVar 0) (aCons (aC (.ty "KeyError")) aNil))) aNil))))))
 (aRet (aOp aAdd (aVar 1) (aLst (aCons (aCB (aIsX K (okX ["NoYard", "NoHeap", "NoOrder", "NotLeast", "NoTold", "NoText", "NoRow", "NoThing", "NoSuch", "NotAsked", "TooMany"] K)) (aCons (aVar 0) (aCons (aC (.ty "RuntimeError")) aNil))) (aCons (aCB (aIsX K (okX ["NoYard", "NoHeap", "NoOrder", "NotLeast", "NoTold", "NoText", "NoRow", "NoThing", "NoSuch", "NotAsked", "TooMany"] K)) (aCons (aVar 0) (aCons (aC (.ty "ArithmeticError")) aNil))) aNil))))))
def a_due17 (K : PySem.W.Frag) : AS := (aSeq (aIf (aTst (aOp aLt (aVar 0) (aC (.int 7)))) (aRet (aLst (aCons (aC (.bl true)) (aCons (aC (.bl true)) (aCons (aC (.bl false)) (aCons (aC (.bl false)) (aCons (aC (.bl false)) (aCons (aC (.bl false)) aNil)))))))) aNext)
 (aSeq (aIf (aTst (aOp (aEqD false) (aVar 0) (aC (.int 7)))) (aRet (aLst (aCons (aC (.bl false)) (aCons (aC (.bl false)) (aCons (aC (.bl true)) (aCons (aC (.bl false)) (aCons (aC (.bl false)) (aCons (aC (.bl false)) aNil)))))))) aNext)
 (aSeq (aIf (aTst (aOp (aEqD false) (aVar 0) (aC (.int 8)))) (aRet (aLst (aCons (aC (.bl false)) (aCons (aC (.bl false)) (aCons (aC (.bl true)) (aCons (aC (.bl true)) (aCons (aC (.bl false)) (aCons (aC (.bl false)) aNil)))))))) aNext)
 (aRet (aLst (aCons (aC (.bl false)) (aCons (aC (.bl false)) (aCons (aC (.bl false)) (aCons (aC (.bl false)) (aCons (aOp (aEqD false) (aVar 0) (aC (.int 9))) (aCons (aOp (aEqD false) (aVar 0) (aC (.int 10))) aNil)))))))))))
def a_maderight17 (K : PySem.W.Frag) : AS := (aSeq (aFor (aEnum (aCons (aVar 0) aNil)) (agTup 2 (agCons (agName 4) (agCons (agName 5) agNil))) (aIf (aOr (aTst (aOp (aEqD true) (aCl (sp_class17 K) (aCons (aVar 5) aNil)) (aLst (aCons (aVar 4) aNil)))) (aTst (aOp (aEqD true) (aCl (sp_stands17 K) (aCons (aVar 5) aNil)) (aCl (sp_due17 K) (aCons (aVar 4) aNil))))) (aRet (aC (.bl false))) aNext))
 (aSeq (aSet 6 (aLst (aCons (aXvf (okX ["NoYard", "NoHeap", "NoOrder", "NotLeast", "NoTold", "NoText", "NoRow", "NoThing", "NoSuch", "NotAsked", "TooMany"] K) "what" (aOp aIx (aVar 0) (aC (.int 0)))) (aCons (aXvf (okX ["NoYard", "NoHeap", "NoOrder", "NotLeast", "NoTold", "NoText", "NoRow", "NoThing", "NoSuch", "NotAsked", "TooMany"] K) "who" (aOp aIx (aVar 0) (aC (.int 0)))) (aCons (aXvf (okX ["NoYard", "NoHeap", "NoOrder", "NotLeast", "NoTold", "NoText", "NoRow", "NoThing", "NoSuch", "NotAsked", "TooMany"] K) "row" (aOp aIx (aVar 0) (aC (.int 5)))) (aCons (aXvf (okX ["NoYard", "NoHeap", "NoOrder", "NotLeast", "NoTold", "NoText", "NoRow", "NoThing", "NoSuch", "NotAsked", "TooMany"] K) "who" (aOp aIx (aVar 0) (aC (.int 7)))) (aCons (aXvf (okX ["NoYard", "NoHeap", "NoOrder", "NotLeast", "NoTold", "NoText", "NoRow", "NoThing", "NoSuch", "NotAsked", "TooMany"] K) "who" (aOp aIx (aVar 0) (aC (.int 8)))) (aCons (aXvf (okX ["NoYard", "NoHeap", "NoOrder", "NotLeast", "NoTold", "NoText", "NoRow", "NoThing", "NoSuch", "NotAsked", "TooMany"] K) "who" (aOp aIx (aVar 0) (aC (.int 9)))) (aCons (aXvf (okX ["NoYard", "NoHeap", "NoOrder", "NotLeast", "NoTold", "NoText", "NoRow", "NoThing", "NoSuch", "NotAsked", "TooMany"] K) "limit" (aOp aIx (aVar 0) (aC (.int 10)))) aNil)))))))))
 (aRet (aOp (aEqD false) (aCB aReprG (aCons (aVar 6) aNil)) (aCB aReprG (aCons (aLst (aCons (aVar 1) (aCons (aVar 2) (aCons (aVar 3) (aCons (aVar 3) (aCons (aVar 1) (aCons (aVar 2) (aCons (aVar 3) aNil)))))))) aNil))))))
def a_right17 (K : PySem.W.Frag) : AS := (aSeq (aPar 1 2 (aCons (aCl (sp_takeX K) (aCons (aVar 0) (aCons (aOp aPow (aC (.int 10)) (aC (.int 30))) aNil))) (aCons (aCl (sp_takeX K) (aCons (aVar 0) (aCons (aC (.int 30)) aNil))) aNil)))
 (aSeq (aPar 3 4 (aCons (aCl (sp_word17 K) (aCons (aVar 0) aNil)) (aCons (aCl (sp_word17 K) (aCons (aVar 0) aNil)) aNil)))
 (aSeq (aSet 5 (aLst (aCons (aXV0 (He.ga K "NoHeap") (aVar 4)) (aCons (aXV0 (He.ga K "NoOrder") (aVar 4)) (aCons (aXV0 (He.ga K "NotLeast") (aVar 4)) (aCons (aXV0 (He.ga K "NoTold") (aVar 4)) aNil))))))
 (aSeq (aSet 6 (aOp aAdd (aOp aAdd (aLst (aCons (aXV (He.ga K "NoYard") ["what", "who"] (aCons (aVar 3) (aCons (aVar 2) aNil))) aNil)) (aVar 5)) (aLst (aCons (aXV (He.ga K "NoText") ["row"] (aCons (aVar 1) aNil)) (aCons (aXV0 (He.ga K "NoRow") (aVar 4)) aNil)))))
 (aSeq (aSet 6 (aOp aAdd (aVar 6) (aLst (aCons (aXV (He.ga K "NoThing") ["who"] (aCons (aVar 1) aNil)) (aCons (aXV (He.ga K "NoSuch") ["who"] (aCons (aVar 3) aNil)) (aCons (aXV (He.ga K "NotAsked") ["who"] (aCons (aVar 2) aNil)) (aCons (aXV (He.ga K "TooMany") ["limit"] (aCons (aVar 1) aNil)) aNil)))))))
 (aSeq (aIf (aNot (aTst (aCl (sp_maderight17 K) (aCons (aVar 6) (aCons (aVar 3) (aCons (aVar 2) (aCons (aVar 1) aNil))))))) (aRet (aC (.bl false))) aNext)
 (aSeq (aSet 6 (aOp aAdd (aOp aAdd (aLst (aCons (aXVK (He.ga K "NoYard") ["what", "who"] 2 [1, 0] (aCons (aVar 2) (aCons (aVar 3) aNil))) aNil)) (aVar 5)) (aLst (aCons (aXVK (He.ga K "NoText") ["row"] 1 [0] (aCons (aVar 1) aNil)) (aCons (aXV0 (He.ga K "NoRow") (aVar 4)) aNil)))))
 (aSeq (aSet 6 (aOp aAdd (aVar 6) (aLst (aCons (aXVK (He.ga K "NoThing") ["who"] 1 [0] (aCons (aVar 1) aNil)) (aCons (aXVK (He.ga K "NoSuch") ["who"] 1 [0] (aCons (aVar 3) aNil)) (aCons (aXVK (He.ga K "NotAsked") ["who"] 1 [0] (aCons (aVar 2) aNil)) (aCons (aXVK (He.ga K "TooMany") ["limit"] 1 [0] (aCons (aVar 1) aNil)) aNil)))))))
 (aSeq (aIf (aNot (aTst (aCl (sp_maderight17 K) (aCons (aVar 6) (aCons (aVar 3) (aCons (aVar 2) (aCons (aVar 1) aNil))))))) (aRet (aC (.bl false))) aNext)
 (aRet (aAndV (aOp (aIs false) (aXvf (okX ["NoYard", "NoHeap", "NoOrder", "NotLeast", "NoTold", "NoText", "NoRow", "NoThing", "NoSuch", "NotAsked", "TooMany"] K) "who" (aXV (He.ga K "NoYard") ["what", "who"] (aCons (aC (.str "deep")) (aCons (aC .non) aNil)))) (aC .non)) (aOp (aIs false) (aXvf (okX ["NoYard", "NoHeap", "NoOrder", "NotLeast", "NoTold", "NoText", "NoRow", "NoThing", "NoSuch", "NotAsked", "TooMany"] K) "who" (aXV (He.ga K "NotAsked") ["who"] (aCons (aC .non) aNil))) (aC .non)))))))))))))
def a_law (K : PySem.W.Frag) : AS := (aSeq (aFor (aRng1 (aCons (aCB aMax (aCons (aC (.int 1)) (aCons (aCB aMin (aCons (aC (.int 4)) (aCons (aCB aLen (aCons (aVar 0) aNil)) aNil))) aNil))) aNil)) (agName 1) (aIf (aNot (aTst (aCl (sp_right17 K) (aCons (aCl (sp_pot K) (aCons (aVar 0) (aCons (aVar 1) aNil))) aNil)))) (aRet (aC (.bl false))) aNext))
 (aRet (aC (.bl true))))
end A

namespace A
open PySem PySem.Spec L2 PyProof.Rows TL
local macro_rules | `(tactic| walk_at "A.go") => `(tactic| simp only [aSeq, aNext, aSet, aVar, atV_s, onB_b, onI_i, onII_i, onL1_i, onL2_i, it_l, it_t, it_s, it_x, ix_l, ix_t, ix_s, add_i, add_x, eq_i, eq_x, eq_b, is_b, aC, aNil, aCons, aOp, aUn, aTup, aLst, aCB, aNot, aAnd, aOr, aTst, aIfE, aAndV, aOrV, aNotV, aChn, aDrop, aRet, aRetN, aIf, agName, agNil, agCons, agTup, aAsg, aPar, aAug, aFor, aRng1, aRng2, aIter, aLc, aYes,
  aCl, aMt, aMk, aFl, aFst, aNeg, aI2, aI20, aLe, aLt, aGt, aGe, aSub, aMod, aMul, aFdv, aPow, aXor, aShl, aShr, agSub, aoN, aoS, aSl, aRev, aLen, aList, aTupOf, aLRg1, aLRg2, aAbs, aI2N, aMax, aMin, aDm, aAll, aAny, aBM, aApp, aPopAt, aPop, aClear, aRevM, aExt, aRepr, aClD, aLnSt, aIAdd, aBreak, aCont,
  aEnd, startA, List.map_cons, List.map_nil, List.cons_append, List.nil_append, List.length_cons, List.length_nil, List.replicate, List.getElem?_cons_zero, List.getElem?_cons_succ, List.set_cons_zero, List.set_cons_succ, Nat.reduceAdd, Nat.reduceSub, Nat.succ_eq_add_one, Int.reduceAdd, Int.reduceMul,
  reduceIte, Bool.false_eq_true, Bool.not_true, Bool.not_false, ite_true, ite_false])
local macro_rules | `(tactic| walk_at "A.hop") => `(tactic| try simp only [aMtF, aFmt, aJs, aEqO, aNeO, aReprF, aRevT, aIsiT, aInt, aStrI, aEnum, aZip, aMulL, aCount, aAugS, aSetOf, aSrtSet, aSum, aDNew, aDIn, aDIx, aDPut, aLenD, aListD, aBits, aDsp1, aBool, aSorted, wipeA, aSeq, aNext, aSet, aVar, atV_s, onB_b, onI_i, onII_i, onL1_i, onL2_i, it_l, it_t, it_s, it_x, ix_l, ix_t, ix_s, add_i, add_x, eq_i, eq_x, eq_b, is_b, aC, aNil, aCons, aOp, aUn, aTup, aLst, aCB, aNot, aAnd, aOr, aTst, aIfE, aAndV, aOrV, aNotV, aChn, aDrop, aRet, aRetN, aIf, agName, agNil, agCons, agTup, aAsg, aPar, aAug, aFor, aRng1, aRng2, aIter, aLc, aYes,
  aCl, aMt, aMk, aFl, aFst, aNeg, aI2, aI20, aLe, aLt, aGt, aGe, aSub, aMod, aMul, aFdv, aPow, aXor, aShl, aShr, agSub, aoN, aoS, aSl, aRev, aLen, aList, aTupOf, aLRg1, aLRg2, aAbs, aI2N, aMax, aMin, aDm, aAll, aAny, aBM, aApp, aPopAt, aPop, aClear, aRevM, aExt, aRepr, aClD, aLnSt, aIAdd, aBreak, aCont,
  aEnd, startA, List.map_cons, List.map_nil, List.cons_append, List.nil_append, List.length_cons, List.length_nil, List.replicate, List.getElem?_cons_zero, List.getElem?_cons_succ, List.set_cons_zero, List.set_cons_succ, Nat.reduceAdd, Nat.reduceSub, Nat.succ_eq_add_one, Int.reduceAdd, Int.reduceMul,
  reduceIte, Bool.false_eq_true, Bool.not_true, Bool.not_false, ite_true, ite_false])
local macro_rules | `(tactic| walk_at "A.lop") => `(tactic| try simp only [decide_true, decide_false, aMtF, aFmt, aJs, aEqO, aNeO, aReprF, aRevT, aIsiT, aInt, aStrI, aEnum, aZip, aMulL, aCount, aAugS, aSetOf, aSrtSet, aSum, aDNew, aDIn, aDIx, aDPut, aLenD, aListD, aBits, aDsp1, aBool, aSorted, wipeA, aSeq, aNext, aSet, aVar, atV_s, onB_b, onI_i, onII_i, onL1_i, onL2_i, it_l, it_t, it_s, it_x, ix_l, ix_t, ix_s, add_i, add_x, eq_i, eq_x, eq_b, is_b, aC, aNil, aCons, aOp, aUn, aTup, aLst, aCB, aNot, aAnd, aOr, aTst, aIfE, aAndV, aOrV, aNotV, aChn, aDrop, aRet, aRetN, aIf, agName, agNil, agCons, agTup, aAsg, aPar, aAug, aFor, aRng1, aRng2, aIter, aLc, aYes,
  aCl, aMt, aMk, aFl, aFst, aNeg, aI2, aI20, aLe, aLt, aGt, aGe, aSub, aMod, aMul, aFdv, aPow, aXor, aShl, aShr, agSub, aoN, aoS, aSl, aRev, aLen, aList, aTupOf, aLRg1, aLRg2, aAbs, aI2N, aMax, aMin, aDm, aBM, aApp, aPopAt, aPop, aClear, aRevM, aExt, aClD, aLnSt, aIAdd, aBreak, aCont,
  aEnd, startA, List.map_cons, List.map_nil, List.cons_append, List.nil_append, List.length_cons, List.length_nil, List.replicate, List.getElem?_cons_zero, List.getElem?_cons_succ, List.set_cons_zero, List.set_cons_succ, Nat.reduceAdd, Nat.reduceSub, Nat.succ_eq_add_one, Int.reduceAdd, Int.reduceMul,
  reduceIte, Bool.false_eq_true, Bool.not_true, Bool.not_false, ite_true, ite_false])
local macro_rules | `(tactic| walk_at "A.lop") => `(tactic| try simp only [aDGet, aListIt, aLcIt, aDictP, aDictD, aRem, decide_true, decide_false, aMtF, aFmt, aJs, aEqO, aNeO, aReprF, aRevT, aIsiT, aInt, aStrI, aEnum, aZip, aMulL, aCount, aAugS, aSetOf, aSrtSet, aSum, aDNew, aDIn, aDIx, aDPut, aLenD, aListD, aBits, aDsp1, aBool, aSorted, wipeA, aSeq, aNext, aSet, aVar, atV_s, onB_b, onI_i, onII_i, onL1_i, onL2_i, it_l, it_t, it_s, it_x, ix_l, ix_t, ix_s, add_i, add_x, eq_i, eq_x, eq_b, is_b, aC, aNil, aCons, aOp, aUn, aTup, aLst, aCB, aNot, aAnd, aOr, aTst, aIfE, aAndV, aOrV, aNotV, aChn, aDrop, aRet, aRetN, aIf, agName, agNil, agCons, agTup, aAsg, aPar, aAug, aFor, aRng1, aRng2, aIter, aLc, aYes,
  aCl, aMt, aMk, aFl, aFst, aNeg, aI2, aI20, aLe, aLt, aGt, aGe, aSub, aMod, aMul, aFdv, aPow, aXor, aShl, aShr, agSub, aoN, aoS, aSl, aRev, aLen, aList, aTupOf, aLRg1, aLRg2, aAbs, aI2N, aMax, aMin, aDm, aBM, aApp, aPopAt, aPop, aClear, aRevM, aExt, aClD, aLnSt, aIAdd, aBreak, aCont,
  aEnd, startA, List.map_cons, List.map_nil, List.cons_append, List.nil_append, List.length_cons, List.length_nil, List.replicate, List.getElem?_cons_zero, List.getElem?_cons_succ, List.set_cons_zero, List.set_cons_succ, Nat.reduceAdd, Nat.reduceSub, Nat.succ_eq_add_one, Int.reduceAdd, Int.reduceMul,
  reduceIte, aBMs, aJoin, Bool.false_eq_true, Bool.not_true, Bool.not_false, ite_true, ite_false])
theorem law_among17 (K : PySem.W.Frag) : ∀ ds S Q E, sp_among17 K ds S Q E → a_among17 K (aEnd Q E) (startA ["_law_pot_here", "_law_some"] ds) S := by
  rintro ds S Q E ⟨p, z, rfl, hp, h0, hz, q⟩
  unfold a_among17
  simp only [aRet, aOp, aVar, aCl, aCons, aNil, aCB, aLen, aEnd, startA, List.map_cons, List.map_nil, List.cons_append, List.nil_append, List.getElem?_cons_zero, List.getElem?_cons_succ]
  have lz : z.cps.toList.length = z.length := rfl
  refine ⟨.str z, z.length, rfl, if_pos (by rw [sizeLine_eq]; omega), p, z.length, rfl, hp, by omega, by omega, fun i i0 i1 => ret ?_⟩
  exact ⟨by rw [sizeLine_eq]; omega, _, atI_ok i0 (by rw [lz]; exact i1), ret (q _ (List.getElem_mem _))⟩
theorem law_due17 (K : PySem.W.Frag) : ∀ ds S Q E, sp_due17 K ds S Q E → a_due17 K (aEnd Q E) (startA ["_law_k"] ds) S := by
  rintro ds S Q E ⟨k, rfl, hk, q⟩
  unfold a_due17
  walk_at "A.lop"
  have z6 : 6 ≤ sizeLine := by rw [sizeLine_eq]; omega
  rcases (by omega : k < 7 ∨ k = 7 ∨ k = 8 ∨ k = 9 ∨ k = 10) with h | h | h | h | h
  · rw [if_pos (decide_eq_true (by omega))]
    refine ⟨z6, .inl (ret ?_)⟩
    unfold dueL at q
    rw [if_pos h] at q
    exact q
  all_goals
    subst h
    exact ⟨z6, .inl (ret q)⟩
/-- signs joined -/
theorem flat_ones (cs : List Nat) : joinL [] (cs.map fun c => [c]) = cs := by
  induction cs with
  | nil => rfl
  | cons c cs ih =>
    cases cs with
    | nil => rfl
    | cons d ds =>
      show [c] ++ ([] ++ joinL [] ((d :: ds).map fun c => [c])) = _
      rw [ih]
      rfl
theorem join_signs (cs : List Nat) : Txt.join (Str.ofString "") (cs.map fun c => (⟨#[c]⟩ : Str)) = ⟨cs.toArray⟩ := by
  show Builtin.Str.glued (Str.ofString "") _ = _
  rw [StrLaws.glued_eq_join]
  refine ext_tl ?_
  rw [tl_join, List.map_map]
  exact flat_ones cs
theorem law_word17 (K : PySem.W.Frag) : ∀ ds S Q E, sp_word17 K ds S Q E → a_word17 K (aEnd Q E) (startA ["_law_pot_here", "_law_letters", "_law_k"] ds) S := by
  rintro ds S Q E ⟨p, rfl, hp, q⟩
  unfold a_word17
  walk_at "A.lop"
  refine ⟨⟨_, rfl⟩, p, 9, rfl, hp, by decide, by decide, fun n n0 n1 => ret ?_⟩
  refine ⟨by omega, by omega, aLcL_inv (fun j acc S' => S' = S ∧ ∃ cs : List Nat, acc = cs.map (fun c => D.str ⟨#[c]⟩) ∧ cs.length = j ∧ ∀ c ∈ cs, 97 ≤ c ∧ c ≤ 122) ?_ ?_ ⟨rfl, [], rfl, rfl, fun _ z => nomatch z⟩⟩
  · rintro j d acc S' k hd ⟨rfl, cs, rfl, hl, hc⟩ hk
    refine ⟨trivial, p, _, rfl, hp, by decide, by decide, fun c mc => ret (hk _ _ ⟨rfl, cs ++ [c], by rw [List.map_append]; rfl, by rw [List.length_append]; simp [hl], fun x hx => ?_⟩)⟩
    rcases List.mem_append.mp hx with hx | hx
    · exact hc x hx
    · rw [List.mem_singleton.mp hx]
      have all : ∀ c ∈ (Str.ofString "abcdefghijklmnopqrstuvwxyz").cps.toList, 97 ≤ c ∧ c ≤ 122 := by decide
      exact all c mc
  · rintro acc S' ⟨rfl, cs, rfl, hl, hc⟩
    rw [rngD_length] at hl
    refine ⟨trivial, .inl ⟨_, _, cs.map (fun c => (⟨#[c]⟩ : Str)), rfl, rfl, by show some _ = some _; rw [List.map_map]; rfl, ?_, ret ?_⟩⟩
    · have : (cs.map (fun c => (⟨#[c]⟩ : Str))).map (·.length) = cs.map fun _ => 1 := by rw [List.map_map]; rfl
      rw [this]
      have z : (Str.ofString "").length = 0 := by decide
      have e : ∀ l : List Nat, (l.map fun _ => 1).sum = l.length := fun l => by
        induction l with
        | nil => rfl
        | cons a l ih => rw [List.map_cons, List.sum_cons, ih, List.length_cons]; omega
      rw [e, z]
      omega
    · rw [join_signs]
      exact q _ ⟨cs, rfl, by omega, hc⟩
end A

namespace A
open PySem PySem.Spec L2 PyProof.Rows
local macro_rules | `(tactic| walk_at "A.go") => `(tactic| simp only [aSeq, aNext, aSet, aVar, atV_s, onB_b, onI_i, onII_i, onL1_i, onL2_i, it_l, it_t, it_s, it_x, ix_l, ix_t, ix_s, add_i, add_x, eq_i, eq_x, eq_b, is_b, aC, aNil, aCons, aOp, aUn, aTup, aLst, aCB, aNot, aAnd, aOr, aTst, aIfE, aAndV, aOrV, aNotV, aChn, aDrop, aRet, aRetN, aIf, agName, agNil, agCons, agTup, aAsg, aPar, aAug, aFor, aRng1, aRng2, aIter, aLc, aYes,
  aCl, aMt, aMk, aFl, aFst, aNeg, aI2, aI20, aLe, aLt, aGt, aGe, aSub, aMod, aMul, aFdv, aPow, aXor, aShl, aShr, agSub, aoN, aoS, aSl, aRev, aLen, aList, aTupOf, aLRg1, aLRg2, aAbs, aI2N, aMax, aMin, aDm, aAll, aAny, aBM, aApp, aPopAt, aPop, aClear, aRevM, aExt, aRepr, aClD, aLnSt, aIAdd, aBreak, aCont,
  aEnd, startA, List.map_cons, List.map_nil, List.cons_append, List.nil_append, List.length_cons, List.length_nil, List.replicate, List.getElem?_cons_zero, List.getElem?_cons_succ, List.set_cons_zero, List.set_cons_succ, Nat.reduceAdd, Nat.reduceSub, Nat.succ_eq_add_one, Int.reduceAdd, Int.reduceMul,
  reduceIte, Bool.false_eq_true, Bool.not_true, Bool.not_false, ite_true, ite_false])
local macro_rules | `(tactic| walk_at "A.hop") => `(tactic| try simp only [aMtF, aFmt, aJs, aEqO, aNeO, aReprF, aRevT, aIsiT, aInt, aStrI, aEnum, aZip, aMulL, aCount, aAugS, aSetOf, aSrtSet, aSum, aDNew, aDIn, aDIx, aDPut, aLenD, aListD, aBits, aDsp1, aBool, aSorted, wipeA, aSeq, aNext, aSet, aVar, atV_s, onB_b, onI_i, onII_i, onL1_i, onL2_i, it_l, it_t, it_s, it_x, ix_l, ix_t, ix_s, add_i, add_x, eq_i, eq_x, eq_b, is_b, aC, aNil, aCons, aOp, aUn, aTup, aLst, aCB, aNot, aAnd, aOr, aTst, aIfE, aAndV, aOrV, aNotV, aChn, aDrop, aRet, aRetN, aIf, agName, agNil, agCons, agTup, aAsg, aPar, aAug, aFor, aRng1, aRng2, aIter, aLc, aYes,
  aCl, aMt, aMk, aFl, aFst, aNeg, aI2, aI20, aLe, aLt, aGt, aGe, aSub, aMod, aMul, aFdv, aPow, aXor, aShl, aShr, agSub, aoN, aoS, aSl, aRev, aLen, aList, aTupOf, aLRg1, aLRg2, aAbs, aI2N, aMax, aMin, aDm, aAll, aAny, aBM, aApp, aPopAt, aPop, aClear, aRevM, aExt, aRepr, aClD, aLnSt, aIAdd, aBreak, aCont,
  aEnd, startA, List.map_cons, List.map_nil, List.cons_append, List.nil_append, List.length_cons, List.length_nil, List.replicate, List.getElem?_cons_zero, List.getElem?_cons_succ, List.set_cons_zero, List.set_cons_succ, Nat.reduceAdd, Nat.reduceSub, Nat.succ_eq_add_one, Int.reduceAdd, Int.reduceMul,
  reduceIte, Bool.false_eq_true, Bool.not_true, Bool.not_false, ite_true, ite_false])
local macro_rules | `(tactic| walk_at "A.lop") => `(tactic| try simp only [decide_true, decide_false, aMtF, aFmt, aJs, aEqO, aNeO, aReprF, aRevT, aIsiT, aInt, aStrI, aEnum, aZip, aMulL, aCount, aAugS, aSetOf, aSrtSet, aSum, aDNew, aDIn, aDIx, aDPut, aLenD, aListD, aBits, aDsp1, aBool, aSorted, wipeA, aSeq, aNext, aSet, aVar, atV_s, onB_b, onI_i, onII_i, onL1_i, onL2_i, it_l, it_t, it_s, it_x, ix_l, ix_t, ix_s, add_i, add_x, eq_i, eq_x, eq_b, is_b, aC, aNil, aCons, aOp, aUn, aTup, aLst, aCB, aNot, aAnd, aOr, aTst, aIfE, aAndV, aOrV, aNotV, aChn, aDrop, aRet, aRetN, aIf, agName, agNil, agCons, agTup, aAsg, aPar, aAug, aFor, aRng1, aRng2, aIter, aLc, aYes,
  aCl, aMt, aMk, aFl, aFst, aNeg, aI2, aI20, aLe, aLt, aGt, aGe, aSub, aMod, aMul, aFdv, aPow, aXor, aShl, aShr, agSub, aoN, aoS, aSl, aRev, aLen, aList, aTupOf, aLRg1, aLRg2, aAbs, aI2N, aMax, aMin, aDm, aBM, aApp, aPopAt, aPop, aClear, aRevM, aExt, aClD, aLnSt, aIAdd, aBreak, aCont,
  aEnd, startA, List.map_cons, List.map_nil, List.cons_append, List.nil_append, List.length_cons, List.length_nil, List.replicate, List.getElem?_cons_zero, List.getElem?_cons_succ, List.set_cons_zero, List.set_cons_succ, Nat.reduceAdd, Nat.reduceSub, Nat.succ_eq_add_one, Int.reduceAdd, Int.reduceMul,
  reduceIte, Bool.false_eq_true, Bool.not_true, Bool.not_false, ite_true, ite_false])
local macro_rules | `(tactic| walk_at "A.lop") => `(tactic| try simp only [aDGet, aListIt, aLcIt, aDictP, aDictD, aRem, decide_true, decide_false, aMtF, aFmt, aJs, aEqO, aNeO, aReprF, aRevT, aIsiT, aInt, aStrI, aEnum, aZip, aMulL, aCount, aAugS, aSetOf, aSrtSet, aSum, aDNew, aDIn, aDIx, aDPut, aLenD, aListD, aBits, aDsp1, aBool, aSorted, wipeA, aSeq, aNext, aSet, aVar, atV_s, onB_b, onI_i, onII_i, onL1_i, onL2_i, it_l, it_t, it_s, it_x, ix_l, ix_t, ix_s, add_i, add_x, eq_i, eq_x, eq_b, is_b, aC, aNil, aCons, aOp, aUn, aTup, aLst, aCB, aNot, aAnd, aOr, aTst, aIfE, aAndV, aOrV, aNotV, aChn, aDrop, aRet, aRetN, aIf, agName, agNil, agCons, agTup, aAsg, aPar, aAug, aFor, aRng1, aRng2, aIter, aLc, aYes,
  aCl, aMt, aMk, aFl, aFst, aNeg, aI2, aI20, aLe, aLt, aGt, aGe, aSub, aMod, aMul, aFdv, aPow, aXor, aShl, aShr, agSub, aoN, aoS, aSl, aRev, aLen, aList, aTupOf, aLRg1, aLRg2, aAbs, aI2N, aMax, aMin, aDm, aBM, aApp, aPopAt, aPop, aClear, aRevM, aExt, aClD, aLnSt, aIAdd, aBreak, aCont,
  aEnd, startA, List.map_cons, List.map_nil, List.cons_append, List.nil_append, List.length_cons, List.length_nil, List.replicate, List.getElem?_cons_zero, List.getElem?_cons_succ, List.set_cons_zero, List.set_cons_succ, Nat.reduceAdd, Nat.reduceSub, Nat.succ_eq_add_one, Int.reduceAdd, Int.reduceMul,
  reduceIte, Bool.false_eq_true, Bool.not_true, Bool.not_false, ite_true, ite_false])
theorem okX17 {K : PySem.W.Frag} {k : Nat} (h : k < 11) : okX ["NoYard", "NoHeap", "NoOrder", "NotLeast", "NoTold", "NoText", "NoRow", "NoThing", "NoSuch", "NotAsked", "TooMany"] K (C17 K k) := by
  refine ⟨nm17.getD k "", ?_, rfl⟩
  rcases (by omega : k = 0 ∨ k = 1 ∨ k = 2 ∨ k = 3 ∨ k = 4 ∨ k = 5 ∨ k = 6 ∨ k = 7 ∨ k = 8 ∨ k = 9 ∨ k = 10) with h | h | h | h | h | h | h | h | h | h | h <;> subst h <;> decide
theorem isx_own {K : PySem.W.Frag} {n o : Int} {w : Str} {k j : Nat} {e : D} {S : Sto} {Q : KD} (h : X17 K n o w k e) (hK : KE17 K) (hj : j < 11) (q : Q (.bl (decide (k = j))) S) :
    aIsX K (okX ["NoYard", "NoHeap", "NoOrder", "NotLeast", "NoTold", "NoText", "NoRow", "NoThing", "NoSuch", "NotAsked", "TooMany"] K) [e, .own (C17 K j)] S Q := by
  obtain ⟨hk, a, d, ns, fs, rfl, _⟩ := h
  exact ⟨_, a, d, ns, fs, _, _, _, rfl, rfl, okX17 hk, (hK k (List.mem_range.mpr hk)).1 j (List.mem_range.mpr hj), q⟩
theorem isx_top {K : PySem.W.Frag} {n o : Int} {w : Str} {k j : Nat} {e c : D} {u : Value} {b : Bool} {S : Sto} {Q : KD} (h : X17 K n o w k e) (hK : KE17 K) (hu : clsD c = some u) (ht : (top17 K)[j]? = some u) (hb : (dueL k)[j]? = some b) (q : Q (.bl b) S) :
    aIsX K (okX ["NoYard", "NoHeap", "NoOrder", "NotLeast", "NoTold", "NoText", "NoRow", "NoThing", "NoSuch", "NotAsked", "TooMany"] K) [e, c] S Q := by
  obtain ⟨hk, a, d, ns, fs, rfl, _⟩ := h
  have h2 := (hK k (List.mem_range.mpr hk)).2
  have e1 : ((top17 K).map (PySem.W.kitOne K (.ref (C17 K k))))[j]? = ((dueL k).map some)[j]? := by rw [h2]
  rw [List.getElem?_map, List.getElem?_map, ht, hb] at e1
  exact ⟨_, a, d, ns, fs, _, _, _, rfl, hu, okX17 hk, Option.some.inj e1, q⟩
theorem add_ll {xs ys : List D} {S : Sto} {Q : KD} (h : xs.length + ys.length ≤ sizeLine) (q : Q (.lst (xs ++ ys)) S) : aAdd (.lst xs) (.lst ys) S Q := ⟨xs, ys, rfl, rfl, h, .inl q⟩
theorem law_class17 (K : PySem.W.Frag) : ∀ ds S Q E, sp_class17 K ds S Q E → a_class17 K (aEnd Q E) (startA ["_law_e", "_law_some", "_law_k"] ds) S := by
  rintro ds S Q E ⟨n, o, w, k, e, rfl, hx, hK, q⟩
  unfold a_class17
  walk_at "A.lop"
  have z : ∀ n : Nat, n ≤ 100 → n ≤ sizeLine := fun n h => by rw [sizeLine_eq]; omega
  refine isx_own (j := 0) hx hK (by decide) (isx_own (j := 1) hx hK (by decide) (isx_own (j := 2) hx hK (by decide) (isx_own (j := 3) hx hK (by decide) ⟨z _ (by decide), .inl ?_⟩)))
  refine isx_own (j := 4) hx hK (by decide) (isx_own (j := 5) hx hK (by decide) (isx_own (j := 6) hx hK (by decide) (isx_own (j := 7) hx hK (by decide) ⟨z _ (by decide), .inl ?_⟩)))
  refine add_ll (z _ (by show 4 + 4 ≤ 100; decide)) ?_
  refine isx_own (j := 8) hx hK (by decide) (isx_own (j := 9) hx hK (by decide) (isx_own (j := 10) hx hK (by decide) ⟨z _ (by decide), .inl ?_⟩))
  refine add_ll (z _ (by show 8 + 3 ≤ 100; decide)) ⟨by decide, by decide, ?_⟩
  refine lc_filter (m := 11) (fun i => decide ((k : Int) = i)) (fun i g hg => ?_) (fun i hi g hg => ?_) ?_
  · exact hg
  · walk_at "A.lop"
    obtain ⟨i0, i1⟩ := hi
    obtain ⟨j, rfl⟩ : ∃ j : Nat, i = j := ⟨i.toNat, by omega⟩
    have ej : decide ((k : Int) = (j : Int)) = decide (k = j) := by
      by_cases h : k = j
      · rw [decide_eq_true h, decide_eq_true (by omega)]
      · rw [decide_eq_false h, decide_eq_false (by omega)]
    rw [ej] at hg
    have hj : j < 11 := by omega
    rcases (by omega : j = 0 ∨ j = 1 ∨ j = 2 ∨ j = 3 ∨ j = 4 ∨ j = 5 ∨ j = 6 ∨ j = 7 ∨ j = 8 ∨ j = 9 ∨ j = 10) with h | h | h | h | h | h | h | h | h | h | h <;> subst h <;> exact ⟨_, rfl, hg⟩
  · have hk := hx.1
    refine .inl (ret ?_)
    have e1 : (rng 11).filter (fun i => decide ((k : Int) = i)) = [(k : Int)] := by
      rcases (by omega : k = 0 ∨ k = 1 ∨ k = 2 ∨ k = 3 ∨ k = 4 ∨ k = 5 ∨ k = 6 ∨ k = 7 ∨ k = 8 ∨ k = 9 ∨ k = 10) with h | h | h | h | h | h | h | h | h | h | h <;> subst h <;> decide
    rw [e1]
    exact q
theorem law_stands17 (K : PySem.W.Frag) : ∀ ds S Q E, sp_stands17 K ds S Q E → a_stands17 K (aEnd Q E) (startA ["_law_e", "_law_some"] ds) S := by
  rintro ds S Q E ⟨n, o, w, k, e, rfl, hx, hK, q⟩
  unfold a_stands17
  walk_at "A.lop"
  have z : ∀ n : Nat, n ≤ 100 → n ≤ sizeLine := fun n h => by rw [sizeLine_eq]; omega
  have hl : (dueL k).length = 6 := by
    unfold dueL
    repeat' split
    all_goals rfl
  have hd : ∃ b0 b1 b2 b3 b4 b5, dueL k = [b0, b1, b2, b3, b4, b5] := by
    match h : dueL k, hl with
    | [b0, b1, b2, b3, b4, b5], _ => exact ⟨_, _, _, _, _, _, rfl⟩
  obtain ⟨b0, b1, b2, b3, b4, b5, hb⟩ := hd
  refine isx_top (j := 0) hx hK rfl rfl (by rw [hb]; rfl) (isx_top (j := 1) hx hK rfl rfl (by rw [hb]; rfl) (isx_top (j := 2) hx hK rfl rfl (by rw [hb]; rfl) (isx_top (j := 3) hx hK rfl rfl (by rw [hb]; rfl) ⟨z _ (by decide), .inl ?_⟩)))
  refine isx_top (j := 4) hx hK rfl rfl (by rw [hb]; rfl) (isx_top (j := 5) hx hK rfl rfl (by rw [hb]; rfl) ⟨z _ (by decide), .inl ?_⟩)
  refine add_ll (z _ (by show 4 + 2 ≤ 100; decide)) (ret ?_)
  rw [hb] at q
  exact q
end A

/-! ## one statement at a time, in laws that name no nested yard -/
namespace A
open PySem PySem.Spec L2 PyProof.Rows
local macro_rules | `(tactic| walk_at "A.go") => `(tactic| simp only [aSeq, aNext, aSet, aVar, atV_s, onB_b, onI_i, onII_i, onL1_i, onL2_i, it_l, it_t, it_s, it_x, ix_l, ix_t, ix_s, add_i, add_x, eq_i, eq_x, eq_b, is_b, aC, aNil, aCons, aOp, aUn, aTup, aLst, aCB, aNot, aAnd, aOr, aTst, aIfE, aAndV, aOrV, aNotV, aChn, aDrop, aRet, aRetN, aIf, agName, agNil, agCons, agTup, aAsg, aPar, aAug, aFor, aRng1, aRng2, aIter, aLc, aYes,
  aCl, aMt, aMk, aFl, aFst, aNeg, aI2, aI20, aLe, aLt, aGt, aGe, aSub, aMod, aMul, aFdv, aPow, aXor, aShl, aShr, agSub, aoN, aoS, aSl, aRev, aLen, aList, aTupOf, aLRg1, aLRg2, aAbs, aI2N, aMax, aMin, aDm, aAll, aAny, aBM, aApp, aPopAt, aPop, aClear, aRevM, aExt, aRepr, aClD, aLnSt, aIAdd, aBreak, aCont,
  aEnd, startA, List.map_cons, List.map_nil, List.cons_append, List.nil_append, List.length_cons, List.length_nil, List.replicate, List.getElem?_cons_zero, List.getElem?_cons_succ, List.set_cons_zero, List.set_cons_succ, Nat.reduceAdd, Nat.reduceSub, Nat.succ_eq_add_one, Int.reduceAdd, Int.reduceMul,
  reduceIte, Bool.false_eq_true, Bool.not_true, Bool.not_false, ite_true, ite_false])
local macro_rules | `(tactic| walk_at "A.hop") => `(tactic| try simp only [aMtF, aFmt, aJs, aEqO, aNeO, aReprF, aRevT, aIsiT, aInt, aStrI, aEnum, aZip, aMulL, aCount, aAugS, aSetOf, aSrtSet, aSum, aDNew, aDIn, aDIx, aDPut, aLenD, aListD, aBits, aDsp1, aBool, aSorted, wipeA, aSeq, aNext, aSet, aVar, atV_s, onB_b, onI_i, onII_i, onL1_i, onL2_i, it_l, it_t, it_s, it_x, ix_l, ix_t, ix_s, add_i, add_x, eq_i, eq_x, eq_b, is_b, aC, aNil, aCons, aOp, aUn, aTup, aLst, aCB, aNot, aAnd, aOr, aTst, aIfE, aAndV, aOrV, aNotV, aChn, aDrop, aRet, aRetN, aIf, agName, agNil, agCons, agTup, aAsg, aPar, aAug, aFor, aRng1, aRng2, aIter, aLc, aYes,
  aCl, aMt, aMk, aFl, aFst, aNeg, aI2, aI20, aLe, aLt, aGt, aGe, aSub, aMod, aMul, aFdv, aPow, aXor, aShl, aShr, agSub, aoN, aoS, aSl, aRev, aLen, aList, aTupOf, aLRg1, aLRg2, aAbs, aI2N, aMax, aMin, aDm, aAll, aAny, aBM, aApp, aPopAt, aPop, aClear, aRevM, aExt, aRepr, aClD, aLnSt, aIAdd, aBreak, aCont,
  aEnd, startA, List.map_cons, List.map_nil, List.cons_append, List.nil_append, List.length_cons, List.length_nil, List.replicate, List.getElem?_cons_zero, List.getElem?_cons_succ, List.set_cons_zero, List.set_cons_succ, Nat.reduceAdd, Nat.reduceSub, Nat.succ_eq_add_one, Int.reduceAdd, Int.reduceMul,
  reduceIte, Bool.false_eq_true, Bool.not_true, Bool.not_false, ite_true, ite_false])
local macro_rules | `(tactic| walk_at "A.lop") => `(tactic| try simp only [decide_true, decide_false, aMtF, aFmt, aJs, aEqO, aNeO, aReprF, aRevT, aIsiT, aInt, aStrI, aEnum, aZip, aMulL, aCount, aAugS, aSetOf, aSrtSet, aSum, aDNew, aDIn, aDIx, aDPut, aLenD, aListD, aBits, aDsp1, aBool, aSorted, wipeA, aSeq, aNext, aSet, aVar, atV_s, onB_b, onI_i, onII_i, onL1_i, onL2_i, it_l, it_t, it_s, it_x, ix_l, ix_t, ix_s, add_i, add_x, eq_i, eq_x, eq_b, is_b, aC, aNil, aCons, aOp, aUn, aTup, aLst, aCB, aNot, aAnd, aOr, aTst, aIfE, aAndV, aOrV, aNotV, aChn, aDrop, aRet, aRetN, aIf, agName, agNil, agCons, agTup, aAsg, aPar, aAug, aFor, aRng1, aRng2, aIter, aLc, aYes,
  aCl, aMt, aMk, aFl, aFst, aNeg, aI2, aI20, aLe, aLt, aGt, aGe, aSub, aMod, aMul, aFdv, aPow, aXor, aShl, aShr, agSub, aoN, aoS, aSl, aRev, aLen, aList, aTupOf, aLRg1, aLRg2, aAbs, aI2N, aMax, aMin, aDm, aBM, aApp, aPopAt, aPop, aClear, aRevM, aExt, aClD, aLnSt, aIAdd, aBreak, aCont,
  aEnd, startA, List.map_cons, List.map_nil, List.cons_append, List.nil_append, List.length_cons, List.length_nil, List.replicate, List.getElem?_cons_zero, List.getElem?_cons_succ, List.set_cons_zero, List.set_cons_succ, Nat.reduceAdd, Nat.reduceSub, Nat.succ_eq_add_one, Int.reduceAdd, Int.reduceMul,
  reduceIte, Bool.false_eq_true, Bool.not_true, Bool.not_false, ite_true, ite_false])
theorem stq {a b : AS} {D : AEnds} {ρ : En} {S : Sto} (h : ∀ nx : En → Sto → Prop, (∀ ρ' S', b D ρ' S' → nx ρ' S') → a { D with nx := nx } ρ S) : aSeq a b D ρ S := h _ fun _ _ h => h
end A

namespace A
open PySem PySem.Spec L2 PyProof.Rows
local macro_rules | `(tactic| walk_at "A.go") => `(tactic| simp only [aSeq, aNext, aSet, aVar, atV_s, onB_b, onI_i, onII_i, onL1_i, onL2_i, it_l, it_t, it_s, it_x, ix_l, ix_t, ix_s, add_i, add_x, eq_i, eq_x, eq_b, is_b, aC, aNil, aCons, aOp, aUn, aTup, aLst, aCB, aNot, aAnd, aOr, aTst, aIfE, aAndV, aOrV, aNotV, aChn, aDrop, aRet, aRetN, aIf, agName, agNil, agCons, agTup, aAsg, aPar, aAug, aFor, aRng1, aRng2, aIter, aLc, aYes,
  aCl, aMt, aMk, aFl, aFst, aNeg, aI2, aI20, aLe, aLt, aGt, aGe, aSub, aMod, aMul, aFdv, aPow, aXor, aShl, aShr, agSub, aoN, aoS, aSl, aRev, aLen, aList, aTupOf, aLRg1, aLRg2, aAbs, aI2N, aMax, aMin, aDm, aAll, aAny, aBM, aApp, aPopAt, aPop, aClear, aRevM, aExt, aRepr, aClD, aLnSt, aIAdd, aBreak, aCont,
  aEnd, startA, List.map_cons, List.map_nil, List.cons_append, List.nil_append, List.length_cons, List.length_nil, List.replicate, List.getElem?_cons_zero, List.getElem?_cons_succ, List.set_cons_zero, List.set_cons_succ, Nat.reduceAdd, Nat.reduceSub, Nat.succ_eq_add_one, Int.reduceAdd, Int.reduceMul,
  reduceIte, Bool.false_eq_true, Bool.not_true, Bool.not_false, ite_true, ite_false])
local macro_rules | `(tactic| walk_at "A.hop") => `(tactic| try simp only [aMtF, aFmt, aJs, aEqO, aNeO, aReprF, aRevT, aIsiT, aInt, aStrI, aEnum, aZip, aMulL, aCount, aAugS, aSetOf, aSrtSet, aSum, aDNew, aDIn, aDIx, aDPut, aLenD, aListD, aBits, aDsp1, aBool, aSorted, wipeA, aSeq, aNext, aSet, aVar, atV_s, onB_b, onI_i, onII_i, onL1_i, onL2_i, it_l, it_t, it_s, it_x, ix_l, ix_t, ix_s, add_i, add_x, eq_i, eq_x, eq_b, is_b, aC, aNil, aCons, aOp, aUn, aTup, aLst, aCB, aNot, aAnd, aOr, aTst, aIfE, aAndV, aOrV, aNotV, aChn, aDrop, aRet, aRetN, aIf, agName, agNil, agCons, agTup, aAsg, aPar, aAug, aFor, aRng1, aRng2, aIter, aLc, aYes,
  aCl, aMt, aMk, aFl, aFst, aNeg, aI2, aI20, aLe, aLt, aGt, aGe, aSub, aMod, aMul, aFdv, aPow, aXor, aShl, aShr, agSub, aoN, aoS, aSl, aRev, aLen, aList, aTupOf, aLRg1, aLRg2, aAbs, aI2N, aMax, aMin, aDm, aAll, aAny, aBM, aApp, aPopAt, aPop, aClear, aRevM, aExt, aRepr, aClD, aLnSt, aIAdd, aBreak, aCont,
  aEnd, startA, List.map_cons, List.map_nil, List.cons_append, List.nil_append, List.length_cons, List.length_nil, List.replicate, List.getElem?_cons_zero, List.getElem?_cons_succ, List.set_cons_zero, List.set_cons_succ, Nat.reduceAdd, Nat.reduceSub, Nat.succ_eq_add_one, Int.reduceAdd, Int.reduceMul,
  reduceIte, Bool.false_eq_true, Bool.not_true, Bool.not_false, ite_true, ite_false])
local macro_rules | `(tactic| walk_at "A.lop") => `(tactic| try simp only [decide_true, decide_false, aMtF, aFmt, aJs, aEqO, aNeO, aReprF, aRevT, aIsiT, aInt, aStrI, aEnum, aZip, aMulL, aCount, aAugS, aSetOf, aSrtSet, aSum, aDNew, aDIn, aDIx, aDPut, aLenD, aListD, aBits, aDsp1, aBool, aSorted, wipeA, aSeq, aNext, aSet, aVar, atV_s, onB_b, onI_i, onII_i, onL1_i, onL2_i, it_l, it_t, it_s, it_x, ix_l, ix_t, ix_s, add_i, add_x, eq_i, eq_x, eq_b, is_b, aC, aNil, aCons, aOp, aUn, aTup, aLst, aCB, aNot, aAnd, aOr, aTst, aIfE, aAndV, aOrV, aNotV, aChn, aDrop, aRet, aRetN, aIf, agName, agNil, agCons, agTup, aAsg, aPar, aAug, aFor, aRng1, aRng2, aIter, aLc, aYes,
  aCl, aMt, aMk, aFl, aFst, aNeg, aI2, aI20, aLe, aLt, aGt, aGe, aSub, aMod, aMul, aFdv, aPow, aXor, aShl, aShr, agSub, aoN, aoS, aSl, aRev, aLen, aList, aTupOf, aLRg1, aLRg2, aAbs, aI2N, aMax, aMin, aDm, aBM, aApp, aPopAt, aPop, aClear, aRevM, aExt, aClD, aLnSt, aIAdd, aBreak, aCont,
  aEnd, startA, List.map_cons, List.map_nil, List.cons_append, List.nil_append, List.length_cons, List.length_nil, List.replicate, List.getElem?_cons_zero, List.getElem?_cons_succ, List.set_cons_zero, List.set_cons_succ, Nat.reduceAdd, Nat.reduceSub, Nat.succ_eq_add_one, Int.reduceAdd, Int.reduceMul,
  reduceIte, Bool.false_eq_true, Bool.not_true, Bool.not_false, ite_true, ite_false])
local macro_rules | `(tactic| walk_at "A.lop") => `(tactic| try simp only [aDGet, aListIt, aLcIt, aDictP, aDictD, aRem, decide_true, decide_false, aMtF, aFmt, aJs, aEqO, aNeO, aReprF, aRevT, aIsiT, aInt, aStrI, aEnum, aZip, aMulL, aCount, aAugS, aSetOf, aSrtSet, aSum, aDNew, aDIn, aDIx, aDPut, aLenD, aListD, aBits, aDsp1, aBool, aSorted, wipeA, aSeq, aNext, aSet, aVar, atV_s, onB_b, onI_i, onII_i, onL1_i, onL2_i, it_l, it_t, it_s, it_x, ix_l, ix_t, ix_s, add_i, add_x, eq_i, eq_x, eq_b, is_b, aC, aNil, aCons, aOp, aUn, aTup, aLst, aCB, aNot, aAnd, aOr, aTst, aIfE, aAndV, aOrV, aNotV, aChn, aDrop, aRet, aRetN, aIf, agName, agNil, agCons, agTup, aAsg, aPar, aAug, aFor, aRng1, aRng2, aIter, aLc, aYes,
  aCl, aMt, aMk, aFl, aFst, aNeg, aI2, aI20, aLe, aLt, aGt, aGe, aSub, aMod, aMul, aFdv, aPow, aXor, aShl, aShr, agSub, aoN, aoS, aSl, aRev, aLen, aList, aTupOf, aLRg1, aLRg2, aAbs, aI2N, aMax, aMin, aDm, aBM, aApp, aPopAt, aPop, aClear, aRevM, aExt, aClD, aLnSt, aIAdd, aBreak, aCont,
  aEnd, startA, List.map_cons, List.map_nil, List.cons_append, List.nil_append, List.length_cons, List.length_nil, List.replicate, List.getElem?_cons_zero, List.getElem?_cons_succ, List.set_cons_zero, List.set_cons_succ, Nat.reduceAdd, Nat.reduceSub, Nat.succ_eq_add_one, Int.reduceAdd, Int.reduceMul,
  reduceIte, aXV, aXV0, aXVK, Bool.false_eq_true, Bool.not_true, Bool.not_false, ite_true, ite_false])
theorem gdG_str {S : Sto} {n B : Nat} {z : Str} (h : PyData.strOk z = true) (l : z.length ≤ B) : GdG S (n + 1) B (.str z) := by
  refine ⟨.str z, ?_, rfl, ?_, ?_⟩
  · simp only [rdG, h, if_true]
  · simp only [PyData.leavesShort, List.all_eq_true, decide_eq_true_eq]
    intro c hc
    unfold PyData.strOk at h
    rw [Array.all_eq_true_iff_forall_mem] at h
    have := of_decide_eq_true (h c (Array.mem_toList_iff.mp hc))
    have e : (16 : Nat) ^ 8 = 4294967296 := by decide
    omega
  · simp only [PyData.weight]
    exact l
theorem eq_bls {S : Sto} {d e : D} {l m : List Bool} {neg : Bool} {Q : KD} (hd : asL S d = some (List.map D.bl l)) (he : asL S e = some (List.map D.bl m)) (q : Q (.bl (if neg then !decide (l = m) else decide (l = m))) S) : aEqD neg d e S Q := by
  have eb : ∀ a b : Bool, PyData.eqv (.bool a) (.bool b) = decide (a = b) := fun a b => by cases a <;> cases b <;> rfl
  have deep : ∃ n p q, n ≤ 60 ∧ rd S n d = some p ∧ rd S n e = some q ∧ Q (.bl (if neg then !PyData.eqv p q else PyData.eqv p q)) S :=
    ⟨2, _, _, by decide, by rw [rd_asL 1 hd]; exact rd_bls (n := 0) l, by rw [rd_asL 1 he]; exact rd_bls (n := 0) m, by rw [eqv_maps eb]; exact q⟩
  cases d with
  | lst _ => exact deep
  | own _ => exact deep
  | _ => cases hd
theorem xvf17 {K : PySem.W.Frag} {n o : Int} {w f : Str} {v d e : D} {es : List D} {j : Nat} {ρ : En} {S : Sto} {Q : KD} {E : KX} (hd : asL S d = some es) (hj : es[j]? = some e) (hx : X17 K n o w j e) (hf : (f, v) ∈ fld17 n o w j) (q : Q v S) :
    aXvf (okX ["NoYard", "NoHeap", "NoOrder", "NotLeast", "NoTold", "NoText", "NoRow", "NoThing", "NoSuch", "NotAsked", "TooMany"] K) f (aOp aIx (aVar 0) (aC (.int (j : Nat)))) (some d :: ρ) S Q E := by
  obtain ⟨hk, a, dd, ns, fs, rfl, h⟩ := hx
  have lt := (List.getElem?_eq_some_iff.mp hj).1
  have ej : atI es (j : Int) = some (D.xv (C17 K j) a dd ns fs) := by
    rw [atI_ok (by omega) (by omega)]
    have := List.getElem?_eq_some_iff.mp hj
    simp only [Int.toNat_natCast]
    rw [this.2]
  exact ix_asL hd ej ⟨_, a, dd, ns, fs, v, rfl, okX17 hk, h _ hf, q⟩
theorem strOk_lw {w : Str} (h : Lw w) : PyData.strOk w = true ∧ w.length ≤ 8 := by
  obtain ⟨cs, rfl, hl, hc⟩ := h
  refine ⟨?_, hl⟩
  unfold PyData.strOk
  rw [Array.all_eq_true_iff_forall_mem]
  intro c hm
  have := hc c (by simpa using hm)
  refine decide_eq_true ?_
  omega
theorem law_maderight17 (K : PySem.W.Frag) : ∀ ds S Q E, sp_maderight17 K ds S Q E → a_maderight17 K (aEnd Q E) (startA ["_law_made", "_law_word_here", "_law_other", "_law_number", "_law_k", "_law_e", "_law_told"] ds) S := by
  rintro ds S Q E ⟨n, o, w, d, es, rfl, hd, hl, hx, hw, n0, n1, o0, o1, hK, q⟩
  unfold a_maderight17
  walk_at "A.lop"
  refine ⟨d, es, rfl, hd, aLoop_inv (fun i ρ S' => S' = S ∧ ∃ x y, ρ = [some d, some (.str w), some (.int o), some (.int n), x, y, none]) ?_ ?_ ⟨rfl, _, _, rfl⟩⟩
  · rintro i z ρ S' nx hi ⟨rfl, x, y, rfl⟩ hn
    obtain ⟨e, he, rfl⟩ := enumD_get hi
    have hxi := hx i e he
    refine ⟨hd, ?_⟩
    walk_at "A.lop"
    refine ⟨[.int i, e], rfl, rfl, rfl, ?_⟩
    refine ⟨n, o, w, i, e, rfl, hxi, hK, ret ⟨by rw [sizeLine_eq]; omega, .inl ?_⟩⟩
    refine eq_ints (l := [(i : Int)]) (m := [(i : Int)]) rfl rfl ?_
    rw [if_pos rfl, decide_eq_true rfl]
    walk_at "A.lop"
    refine ⟨n, o, w, i, e, rfl, hxi, hK, ret ⟨i, rfl, hxi.1, ret ?_⟩⟩
    refine eq_bls (l := dueL i) (m := dueL i) rfl rfl ?_
    rw [if_pos rfl, decide_eq_true rfl]
    walk_at "A.lop"
    exact hn _ _ ⟨rfl, _, _, rfl⟩
  · rintro ρ S' ⟨rfl, x, y, rfl⟩
    have at_ : ∀ j : Nat, j < 11 → ∃ e, es[j]? = some e := fun j h => ⟨_, List.getElem?_eq_getElem (by omega)⟩
    obtain ⟨e0, h0⟩ := at_ 0 (by omega)
    obtain ⟨e5, h5⟩ := at_ 5 (by omega)
    obtain ⟨e7, h7⟩ := at_ 7 (by omega)
    obtain ⟨e8, h8⟩ := at_ 8 (by omega)
    obtain ⟨e9, h9⟩ := at_ 9 (by omega)
    obtain ⟨e10, h10⟩ := at_ 10 (by omega)
    refine ⟨hd, ?_⟩
    refine xvf17 (E := RetX E) (ρ := [some (.str w), some (.int o), some (.int n), x, y, none]) (j := 0) (v := .str w) hd h0 (hx _ _ h0) (by simp [fld17]) ?_
    refine xvf17 (E := RetX E) (ρ := [some (.str w), some (.int o), some (.int n), x, y, none]) (j := 0) (v := .int o) hd h0 (hx _ _ h0) (by simp [fld17]) ?_
    refine xvf17 (E := RetX E) (ρ := [some (.str w), some (.int o), some (.int n), x, y, none]) (j := 5) (v := .int n) hd h5 (hx _ _ h5) (by simp [fld17]) ?_
    refine xvf17 (E := RetX E) (ρ := [some (.str w), some (.int o), some (.int n), x, y, none]) (j := 7) (v := .int n) hd h7 (hx _ _ h7) (by simp [fld17]) ?_
    refine xvf17 (E := RetX E) (ρ := [some (.str w), some (.int o), some (.int n), x, y, none]) (j := 8) (v := .str w) hd h8 (hx _ _ h8) (by simp [fld17]) ?_
    refine xvf17 (E := RetX E) (ρ := [some (.str w), some (.int o), some (.int n), x, y, none]) (j := 9) (v := .int o) hd h9 (hx _ _ h9) (by simp [fld17]) ?_
    refine xvf17 (E := RetX E) (ρ := [some (.str w), some (.int o), some (.int n), x, y, none]) (j := 10) (v := .int n) hd h10 (hx _ _ h10) (by simp [fld17]) ?_
    obtain ⟨wk, wl⟩ := strOk_lw hw
    have gi : ∀ i : Int, 0 ≤ i → i < 10 ^ 30 → GdG S' 5 400 (.int i) := fun i h h2 => (gdG_int (n := 4) (by omega)).up (by decide) (by decide)
    have gw : GdG S' 5 400 (.str w) := gdG_str wk (by omega)
    have g : GdG S' 6 4000 (.lst [.str w, .int o, .int n, .int n, .str w, .int o, .int n]) := gdG_lst (B := 400) (fun x hx => by
      simp only [List.mem_cons, List.not_mem_nil, or_false] at hx
      rcases hx with rfl | rfl | rfl | rfl | rfl | rfl | rfl
      · exact gw
      · exact gi o o0 (by omega)
      · exact gi n n0 n1
      · exact gi n n0 n1
      · exact gw
      · exact gi o o0 (by omega)
      · exact gi n n0 n1) (by show 401 * 7 ≤ 4000; decide)
    obtain ⟨p, g1, g2, g3, g4⟩ := g
    have sh : (∃ l, p = .list l) ∨ ∃ l, p = .tuple l := by
      have g1' : (rdL (rdG S' 5) [.str w, .int o, .int n, .int n, .str w, .int o, .int n]).map PyData.list = some p := g1
      obtain ⟨l, _, rfl⟩ := Option.map_eq_some_iff.mp g1'
      exact .inl ⟨l, rfl⟩
    refine ⟨by rw [sizeLine_eq]; omega, .inl ?_⟩
    walk_at "A.lop"
    refine ⟨_, 6, p, rfl, by decide, g1, sh, g2, g3, by omega, ⟨by rw [sizeLine_eq]; omega, .inl ⟨_, 6, p, rfl, by decide, g1, sh, g2, g3, by omega, ?_⟩⟩⟩
    walk_at "A.lop"
    exact ret q
/-- the exceptions' list -/
theorem all11 {K : PySem.W.Frag} {n o : Int} {w : Str} {e0 e1 e2 e3 e4 e5 e6 e7 e8 e9 e10 : D} (h0 : X17 K n o w 0 e0) (h1 : X17 K n o w 1 e1) (h2 : X17 K n o w 2 e2) (h3 : X17 K n o w 3 e3) (h4 : X17 K n o w 4 e4) (h5 : X17 K n o w 5 e5) (h6 : X17 K n o w 6 e6)
    (h7 : X17 K n o w 7 e7) (h8 : X17 K n o w 8 e8) (h9 : X17 K n o w 9 e9) (h10 : X17 K n o w 10 e10) : ∀ (k : Nat) (e : D), [e0, e1, e2, e3, e4, e5, e6, e7, e8, e9, e10][k]? = some e → X17 K n o w k e
  | 0, _, h => by cases h; exact h0
  | 1, _, h => by cases h; exact h1
  | 2, _, h => by cases h; exact h2
  | 3, _, h => by cases h; exact h3
  | 4, _, h => by cases h; exact h4
  | 5, _, h => by cases h; exact h5
  | 6, _, h => by cases h; exact h6
  | 7, _, h => by cases h; exact h7
  | 8, _, h => by cases h; exact h8
  | 9, _, h => by cases h; exact h9
  | 10, _, h => by cases h; exact h10
  | k + 11, _, h => by simp at h
section
variable {K : PySem.W.Frag} {n o : Int} {w : Str} {a d : Addr}
theorem x_none {k : Nat} (hk : k < 11) (h : fld17 n o w k = []) : X17 K n o w k (.xv (C17 K k) a none [] []) := ⟨hk, a, none, [], [], rfl, fun p hp => by rw [h] at hp; cases hp⟩
theorem x_one {k : Nat} {f : Str} {v : D} (hk : k < 11) (h : fld17 n o w k = [(f, v)]) : X17 K n o w k (.xv (C17 K k) a (some d) [f] [v]) := ⟨hk, a, some d, _, _, rfl, fun p hp => by
  rw [h] at hp
  rw [List.mem_singleton.mp hp]
  simp [List.lookup]⟩
theorem x_two : X17 K n o w 0 (.xv (C17 K 0) a (some d) ["who", "what"] [.int o, .str w]) := ⟨by decide, a, some d, _, _, rfl, fun p hp => by
  simp only [fld17, List.mem_cons, List.not_mem_nil, or_false] at hp
  rcases hp with rfl | rfl
  · rfl
  · rfl⟩
end
theorem law_right17 (K : PySem.W.Frag) : ∀ ds S Q E, sp_right17 K ds S Q E → a_right17 K (aEnd Q E) (startA ["_law_pot_here", "_law_number", "_law_other", "_law_word_here", "_law_text", "_law_plain", "_law_made"] ds) S := by
  rintro ds S Q E ⟨p, rfl, hp, hK, q⟩
  unfold a_right17
  refine stq fun nx1 n1 => ?_
  walk_at "A.lop"
  refine ⟨by unfold CPow; decide, p, _, rfl, hp, by decide, by decide, fun n n0 n1' => ret ⟨p, _, rfl, hp, by decide, by decide, fun o o0 o1 => ret ?_⟩⟩
  refine n1 _ _ ?_
  clear n1
  refine stq fun nx1 n1 => ?_
  walk_at "A.lop"
  refine ⟨p, rfl, hp, fun w hw => ret ⟨p, rfl, hp, fun t ht => ret ?_⟩⟩
  refine n1 _ _ ?_
  clear n1
  refine stq fun nx1 n1 => ?_
  walk_at "A.lop"
  refine fun a1 a2 a3 a4 => ⟨by rw [sizeLine_eq]; omega, .inl ?_⟩
  refine n1 _ _ ?_
  clear n1
  refine stq fun nx1 n1 => ?_
  walk_at "A.lop"
  have z : ∀ n : Nat, n ≤ 100 → n ≤ sizeLine := fun n h => by rw [sizeLine_eq]; omega
  refine ⟨trivial, by decide, fun b0 c0 => ⟨z _ (by decide), .inl (add_ll (z _ (by show 1 + 4 ≤ 100; decide)) ⟨trivial, by decide, fun b5 c5 a6 => ⟨z _ (by decide), .inl (add_ll (z _ (by show 5 + 2 ≤ 100; decide)) ?_)⟩⟩)⟩⟩
  refine n1 _ _ ?_
  clear n1
  refine stq fun nx1 n1 => ?_
  walk_at "A.lop"
  refine ⟨trivial, by decide, fun b7 c7 => ⟨trivial, by decide, fun b8 c8 => ⟨trivial, by decide, fun b9 c9 => ⟨trivial, by decide, fun b10 c10 => ⟨z _ (by decide), .inl (add_ll (z _ (by show 7 + 4 ≤ 100; decide)) ?_)⟩⟩⟩⟩⟩
  refine n1 _ _ ?_
  clear n1
  refine stq fun nx1 n1 => ?_
  walk_at "A.lop"
  refine ⟨n, o, w, _, _, rfl, rfl, rfl, all11 x_two (x_none (by decide) rfl) (x_none (by decide) rfl) (x_none (by decide) rfl) (x_none (by decide) rfl) (x_one (by decide) rfl) (x_none (by decide) rfl) (x_one (by decide) rfl) (x_one (by decide) rfl) (x_one (by decide) rfl) (x_one (by decide) rfl), hw, n0, by simpa using n1', o0, o1, hK, ret ?_⟩
  walk_at "A.lop"
  refine n1 _ _ ?_
  clear n1
  refine stq fun nx1 n1 => ?_
  walk_at "A.lop"
  simp only [pick, List.filterMap_cons, List.filterMap_nil, List.getElem?_cons_zero, List.getElem?_cons_succ]
  refine ⟨trivial, rfl, fun b0' c0' => ⟨z _ (by decide), .inl (add_ll (z _ (by show 1 + 4 ≤ 100; decide)) ⟨trivial, rfl, fun b5' c5' a6' => ⟨z _ (by decide), .inl (add_ll (z _ (by show 5 + 2 ≤ 100; decide)) ?_)⟩⟩)⟩⟩
  refine n1 _ _ ?_
  clear n1
  refine stq fun nx1 n1 => ?_
  walk_at "A.lop"
  simp only [pick, List.filterMap_cons, List.filterMap_nil, List.getElem?_cons_zero, List.getElem?_cons_succ]
  refine ⟨trivial, rfl, fun b7' c7' => ⟨trivial, rfl, fun b8' c8' => ⟨trivial, rfl, fun b9' c9' => ⟨trivial, rfl, fun b10' c10' => ⟨z _ (by decide), .inl (add_ll (z _ (by show 7 + 4 ≤ 100; decide)) ?_)⟩⟩⟩⟩⟩
  refine n1 _ _ ?_
  clear n1
  refine stq fun nx1 n1 => ?_
  walk_at "A.lop"
  refine ⟨n, o, w, _, _, rfl, rfl, rfl, all11 x_two (x_none (by decide) rfl) (x_none (by decide) rfl) (x_none (by decide) rfl) (x_none (by decide) rfl) (x_one (by decide) rfl) (x_none (by decide) rfl) (x_one (by decide) rfl) (x_one (by decide) rfl) (x_one (by decide) rfl) (x_one (by decide) rfl), hw, n0, by simpa using n1', o0, o1, hK, ret ?_⟩
  walk_at "A.lop"
  refine n1 _ _ ?_
  clear n1
  walk_at "A.lop"
  simp only [aXvf]
  walk_at "A.lop"
  refine ⟨trivial, by decide, fun a d => ⟨_, a, _, _, _, .non, rfl, okX17 (k := 0) (by decide), rfl, ?_⟩⟩
  walk_at "A.lop"
  refine ⟨trivial, by decide, fun a d => ⟨_, a, _, _, _, .non, rfl, okX17 (k := 9) (by decide), rfl, ret q⟩⟩
theorem law_law (K : PySem.W.Frag) : ∀ ds S Q E, sp_law K ds S Q E → a_law K (aEnd Q E) (startA ["_law_script", "_law_k"] ds) S := by
  rintro ds S Q E ⟨ns, rfl, hl, hb, hK, q⟩
  unfold a_law
  walk_at "A.lop"
  refine ⟨.scr ns, ns.length, rfl, rfl, trivial, trivial, ?_, ?_, ?_⟩
  · split <;> split <;> omega
  · split <;> split <;> omega
  have hk : ∃ m : Nat, (if (if (ns.length : Int) < (4 : Int) then (ns.length : Int) else (4 : Int)) > 1 then (if (ns.length : Int) < (4 : Int) then (ns.length : Int) else (4 : Int)) else 1) = (m : Int) ∧ m ≤ 4 := by
    refine ⟨(if (if (ns.length : Int) < (4 : Int) then (ns.length : Int) else (4 : Int)) > 1 then (if (ns.length : Int) < (4 : Int) then (ns.length : Int) else (4 : Int)) else 1).toNat, ?_, ?_⟩ <;> split <;> split <;> omega
  obtain ⟨m, em, hm⟩ := hk
  rw [em]
  rw [rng0]
  refine aLoop_inv (fun j ρ S' => Sub S S' ∧ ∃ b1, ρ = [some (.scr ns), b1]) ?_ ?_ ⟨Sub.refl S, none, rfl⟩
  · rintro j z ρ S' nx hz ⟨sb, b1, rfl⟩ hn
    rw [List.getElem?_map] at hz
    obtain ⟨k, hkk, rfl⟩ := Option.map_eq_some_iff.mp hz
    obtain ⟨k0, k1⟩ := mem_rngI.mp (List.mem_of_getElem? hkk)
    refine ⟨trivial, ?_⟩
    walk_at "A.lop"
    refine ⟨ns, k, rfl, k0, by omega, hb, fun a ha => ret ⟨a, rfl, put_same, hK, ret ?_⟩⟩
    walk_at "A.lop"
    exact hn _ _ ⟨sb.trans (sub_del ha), _, rfl⟩
  · rintro ρ S' ⟨sb, b1, rfl⟩
    exact ⟨trivial, ret_drop q sb⟩
end A

namespace A
open PySem PySem.Spec L2 PyProof.Rows
local macro_rules | `(tactic| walk_at "A.go") => `(tactic| simp only [aSeq, aNext, aSet, aVar, atV_s, onB_b, onI_i, onII_i, onL1_i, onL2_i, it_l, it_t, it_s, it_x, ix_l, ix_t, ix_s, add_i, add_x, eq_i, eq_x, eq_b, is_b, aC, aNil, aCons, aOp, aUn, aTup, aLst, aCB, aNot, aAnd, aOr, aTst, aIfE, aAndV, aOrV, aNotV, aChn, aDrop, aRet, aRetN, aIf, agName, agNil, agCons, agTup, aAsg, aPar, aAug, aFor, aRng1, aRng2, aIter, aLc, aYes,
  aCl, aMt, aMk, aFl, aFst, aNeg, aI2, aI20, aLe, aLt, aGt, aGe, aSub, aMod, aMul, aFdv, aPow, aXor, aShl, aShr, agSub, aoN, aoS, aSl, aRev, aLen, aList, aTupOf, aLRg1, aLRg2, aAbs, aI2N, aMax, aMin, aDm, aAll, aAny, aBM, aApp, aPopAt, aPop, aClear, aRevM, aExt, aRepr, aClD, aLnSt, aIAdd, aBreak, aCont,
  aEnd, startA, List.map_cons, List.map_nil, List.cons_append, List.nil_append, List.length_cons, List.length_nil, List.replicate, List.getElem?_cons_zero, List.getElem?_cons_succ, List.set_cons_zero, List.set_cons_succ, Nat.reduceAdd, Nat.reduceSub, Nat.succ_eq_add_one, Int.reduceAdd, Int.reduceMul,
  reduceIte, Bool.false_eq_true, Bool.not_true, Bool.not_false, ite_true, ite_false])
local macro_rules | `(tactic| walk_at "A.hop") => `(tactic| try simp only [aMtF, aFmt, aJs, aEqO, aNeO, aReprF, aRevT, aIsiT, aInt, aStrI, aEnum, aZip, aMulL, aCount, aAugS, aSetOf, aSrtSet, aSum, aDNew, aDIn, aDIx, aDPut, aLenD, aListD, aBits, aDsp1, aBool, aSorted, wipeA, aSeq, aNext, aSet, aVar, atV_s, onB_b, onI_i, onII_i, onL1_i, onL2_i, it_l, it_t, it_s, it_x, ix_l, ix_t, ix_s, add_i, add_x, eq_i, eq_x, eq_b, is_b, aC, aNil, aCons, aOp, aUn, aTup, aLst, aCB, aNot, aAnd, aOr, aTst, aIfE, aAndV, aOrV, aNotV, aChn, aDrop, aRet, aRetN, aIf, agName, agNil, agCons, agTup, aAsg, aPar, aAug, aFor, aRng1, aRng2, aIter, aLc, aYes,
  aCl, aMt, aMk, aFl, aFst, aNeg, aI2, aI20, aLe, aLt, aGt, aGe, aSub, aMod, aMul, aFdv, aPow, aXor, aShl, aShr, agSub, aoN, aoS, aSl, aRev, aLen, aList, aTupOf, aLRg1, aLRg2, aAbs, aI2N, aMax, aMin, aDm, aAll, aAny, aBM, aApp, aPopAt, aPop, aClear, aRevM, aExt, aRepr, aClD, aLnSt, aIAdd, aBreak, aCont,
  aEnd, startA, List.map_cons, List.map_nil, List.cons_append, List.nil_append, List.length_cons, List.length_nil, List.replicate, List.getElem?_cons_zero, List.getElem?_cons_succ, List.set_cons_zero, List.set_cons_succ, Nat.reduceAdd, Nat.reduceSub, Nat.succ_eq_add_one, Int.reduceAdd, Int.reduceMul,
  reduceIte, Bool.false_eq_true, Bool.not_true, Bool.not_false, ite_true, ite_false])
local macro_rules | `(tactic| walk_at "A.lop") => `(tactic| try simp only [decide_true, decide_false, aMtF, aFmt, aJs, aEqO, aNeO, aReprF, aRevT, aIsiT, aInt, aStrI, aEnum, aZip, aMulL, aCount, aAugS, aSetOf, aSrtSet, aSum, aDNew, aDIn, aDIx, aDPut, aLenD, aListD, aBits, aDsp1, aBool, aSorted, wipeA, aSeq, aNext, aSet, aVar, atV_s, onB_b, onI_i, onII_i, onL1_i, onL2_i, it_l, it_t, it_s, it_x, ix_l, ix_t, ix_s, add_i, add_x, eq_i, eq_x, eq_b, is_b, aC, aNil, aCons, aOp, aUn, aTup, aLst, aCB, aNot, aAnd, aOr, aTst, aIfE, aAndV, aOrV, aNotV, aChn, aDrop, aRet, aRetN, aIf, agName, agNil, agCons, agTup, aAsg, aPar, aAug, aFor, aRng1, aRng2, aIter, aLc, aYes,
  aCl, aMt, aMk, aFl, aFst, aNeg, aI2, aI20, aLe, aLt, aGt, aGe, aSub, aMod, aMul, aFdv, aPow, aXor, aShl, aShr, agSub, aoN, aoS, aSl, aRev, aLen, aList, aTupOf, aLRg1, aLRg2, aAbs, aI2N, aMax, aMin, aDm, aBM, aApp, aPopAt, aPop, aClear, aRevM, aExt, aClD, aLnSt, aIAdd, aBreak, aCont,
  aEnd, startA, List.map_cons, List.map_nil, List.cons_append, List.nil_append, List.length_cons, List.length_nil, List.replicate, List.getElem?_cons_zero, List.getElem?_cons_succ, List.set_cons_zero, List.set_cons_succ, Nat.reduceAdd, Nat.reduceSub, Nat.succ_eq_add_one, Int.reduceAdd, Int.reduceMul,
  reduceIte, Bool.false_eq_true, Bool.not_true, Bool.not_false, ite_true, ite_false])
theorem sc_pot : FnScope ["_law_script", "_law_k", "_law_cell"] ["_law_script", "_law_k"] (defScope (top 14)) := ⟨rfl, rfl, rfl, by decide +kernel, rfl, by decide +kernel, by decide +kernel⟩
theorem sc_take : FnScope ["_law_pot_here", "_law_many", "_law_digit"] ["_law_pot_here", "_law_many"] (defScope (top 15)) := ⟨rfl, rfl, rfl, by decide +kernel, rfl, by decide +kernel, by decide +kernel⟩
theorem sc_among17 : FnScope ["_law_pot_here", "_law_some"] ["_law_pot_here", "_law_some"] (defScope (top 16)) := ⟨rfl, rfl, rfl, by decide +kernel, rfl, by decide +kernel, by decide +kernel⟩
theorem sc_word17 : FnScope ["_law_pot_here", "_law_letters", "_law_k"] ["_law_pot_here"] (defScope (top 18)) := ⟨rfl, rfl, rfl, by decide +kernel, rfl, by decide +kernel, by decide +kernel⟩
theorem sc_class17 : FnScope ["_law_e", "_law_some", "_law_k"] ["_law_e"] (defScope (top 19)) := ⟨rfl, rfl, rfl, by decide +kernel, rfl, by decide +kernel, by decide +kernel⟩
theorem sc_stands17 : FnScope ["_law_e", "_law_some"] ["_law_e"] (defScope (top 20)) := ⟨rfl, rfl, rfl, by decide +kernel, rfl, by decide +kernel, by decide +kernel⟩
theorem sc_due17 : FnScope ["_law_k"] ["_law_k"] (defScope (top 21)) := ⟨rfl, rfl, rfl, by decide +kernel, rfl, by decide +kernel, by decide +kernel⟩
theorem sc_maderight17 : FnScope ["_law_made", "_law_word_here", "_law_other", "_law_number", "_law_k", "_law_e", "_law_told"] ["_law_made", "_law_word_here", "_law_other", "_law_number"] (defScope (top 22)) := ⟨rfl, rfl, rfl, by decide +kernel, rfl, by decide +kernel, by decide +kernel⟩
theorem sc_takeX : FnScope ["_law_pot_here", "_law_many", "_law_digit"] ["_law_pot_here", "_law_many"] (defScope (top 15)) := ⟨rfl, rfl, rfl, by decide +kernel, rfl, by decide +kernel, by decide +kernel⟩
theorem sc_right17 : FnScope ["_law_pot_here", "_law_number", "_law_other", "_law_word_here", "_law_text", "_law_plain", "_law_made"] ["_law_pot_here"] (defScope (top 23)) := ⟨rfl, rfl, rfl, by decide +kernel, rfl, by decide +kernel, by decide +kernel⟩
theorem sc_law : FnScope ["_law_script", "_law_k"] ["_law_script"] (defScope (top 24)) := ⟨rfl, rfl, rfl, by decide +kernel, rfl, by decide +kernel, by decide +kernel⟩
theorem sc_NoYard : FnScope ["self", "what", "who"] ["self", "what", "who"] (defScope (inClass (top 2) 0)) := ⟨rfl, rfl, rfl, by decide +kernel, rfl, by decide +kernel, by decide +kernel⟩
theorem sc_NoText : FnScope ["self", "row"] ["self", "row"] (defScope (inClass (top 7) 0)) := ⟨rfl, rfl, rfl, by decide +kernel, rfl, by decide +kernel, by decide +kernel⟩
theorem sc_TooMany : FnScope ["self", "limit"] ["self", "limit"] (defScope (inClass (top 12) 0)) := ⟨rfl, rfl, rfl, by decide +kernel, rfl, by decide +kernel, by decide +kernel⟩
theorem sc_NotAsked : FnScope ["self", "who"] ["self", "who"] (defScope (inClass (top 11) 0)) := ⟨rfl, rfl, rfl, by decide +kernel, rfl, by decide +kernel, by decide +kernel⟩
theorem sc_NoSuch : FnScope ["self", "who"] ["self", "who"] (defScope (inClass (top 10) 0)) := ⟨rfl, rfl, rfl, by decide +kernel, rfl, by decide +kernel, by decide +kernel⟩
theorem sc_NoThing : FnScope ["self", "who"] ["self", "who"] (defScope (inClass (top 9) 0)) := ⟨rfl, rfl, rfl, by decide +kernel, rfl, by decide +kernel, by decide +kernel⟩
section
variable {P : Program} {w : World} {K : PySem.W.Frag} {mg : Str → Option Value} {base h : Heap} (hX : K.In h) (hG : h.Ns mainGlobals mg) (c : SaysX fc fn K)
include hX hG c
theorem fx_NoYard : RzF P w K mg base "NoYard" (He.ga K "NoYard") 1 ["what", "who"] := by
  obtain ⟨fd, F⟩ := c.df 0 (d := d0) rfl
  obtain ⟨T, iC, tI, tk⟩ := oex_ok (c.ck 34 rfl)
  exact ⟨_, _, _, _, _, fd, ["self", "what", "who"], He.glo_ok hX hG (c.ck 10 rfl), (EB.of PySem.F.excBase_ValueError), T, iC, tI, (F.bindsN fun _ _ _ _ _ _ us hl => match us, hl with | [_, _, _], _ => rfl), exi2 (m := "no yard") F sc_NoYard T (tk _ (by decide)) (tk _ (by decide)) fun cdv A outer s H E => (pss_cons (ps_expr (pe_init_cl (mc := (0 : Nat)) (EB.of PySem.F.excBase_ValueError) (He.glo_ok hX hG (c.ck 21 rfl)) (bcl_ok (c.ck 35 rfl)).1 (bcl_ok (c.ck 35 rfl)).2 (by decide +kernel) (pa_cons (pe_var (i := 0) rfl (Or.inl rfl)) (pa_cons pe_str pa_nil))) rfl) (pss_cons (ps_fldG PySem.F.store_ValueError (pe_var (i := 0) rfl (Or.inl rfl)) (pe_var (i := 1) rfl (Or.inl rfl))) (pss_one (ps_fldG PySem.F.store_ValueError (pe_var (i := 0) rfl (Or.inl rfl)) (pe_var (i := 2) rfl (Or.inl rfl))))))⟩
theorem fk_NoYard_who_what : RzK P w K mg base "NoYard" (He.ga K "NoYard") 1 ["what", "who"] ["who", "what"] [1, 0] := by
  obtain ⟨fd, F⟩ := c.df 0 (d := d0) rfl
  obtain ⟨T, iC, tI, tk⟩ := oex_ok (c.ck 34 rfl)
  exact ⟨_, _, _, _, _, fd, ["self", "what", "who"], He.glo_ok hX hG (c.ck 10 rfl), (EB.of PySem.F.excBase_ValueError), T, iC, tI, (fun s y ws hK l => match ws, l with | [b0, b1], _ => binds_kw F (n := 1) (ks := ["who", "what"]) (ix := [0, 2, 1]) (fun _ _ _ _ _ _ us ws l1 l2 => match us, l1, ws, l2 with | [_], _, [b0, b1], _ => rfl) s [y] [b0, b1] hK rfl rfl), exi2 (m := "no yard") F sc_NoYard T (tk _ (by decide)) (tk _ (by decide)) fun cdv A outer s H E => (pss_cons (ps_expr (pe_init_cl (mc := (0 : Nat)) (EB.of PySem.F.excBase_ValueError) (He.glo_ok hX hG (c.ck 21 rfl)) (bcl_ok (c.ck 35 rfl)).1 (bcl_ok (c.ck 35 rfl)).2 (by decide +kernel) (pa_cons (pe_var (i := 0) rfl (Or.inl rfl)) (pa_cons pe_str pa_nil))) rfl) (pss_cons (ps_fldG PySem.F.store_ValueError (pe_var (i := 0) rfl (Or.inl rfl)) (pe_var (i := 1) rfl (Or.inl rfl))) (pss_one (ps_fldG PySem.F.store_ValueError (pe_var (i := 0) rfl (Or.inl rfl)) (pe_var (i := 2) rfl (Or.inl rfl))))))⟩
theorem fx_NoText : RzF P w K mg base "NoText" (He.ga K "NoText") 1 ["row"] := by
  obtain ⟨fd, F⟩ := c.df 1 (d := d1) rfl
  obtain ⟨T, iC, tI, tk⟩ := oex_ok (c.ck 36 rfl)
  exact ⟨_, _, _, _, _, fd, ["self", "row"], He.glo_ok hX hG (c.ck 13 rfl), (EB.of PySem.F.excBase_ValueError), T, iC, tI, (F.bindsN fun _ _ _ _ _ _ us hl => match us, hl with | [_, _], _ => rfl), exi1 (m := "no such text") F sc_NoText T (tk _ (by decide)) fun cdv A outer s H E => (pss_cons (ps_expr (pe_init_cl (mc := (0 : Nat)) (EB.of PySem.F.excBase_ValueError) (He.glo_ok hX hG (c.ck 21 rfl)) (bcl_ok (c.ck 35 rfl)).1 (bcl_ok (c.ck 35 rfl)).2 (by decide +kernel) (pa_cons (pe_var (i := 0) rfl (Or.inl rfl)) (pa_cons pe_str pa_nil))) rfl) (pss_one (ps_fldG PySem.F.store_ValueError (pe_var (i := 0) rfl (Or.inl rfl)) (pe_var (i := 1) rfl (Or.inl rfl)))))⟩
theorem fk_NoText_row : RzK P w K mg base "NoText" (He.ga K "NoText") 1 ["row"] ["row"] [0] := by
  obtain ⟨fd, F⟩ := c.df 1 (d := d1) rfl
  obtain ⟨T, iC, tI, tk⟩ := oex_ok (c.ck 36 rfl)
  exact ⟨_, _, _, _, _, fd, ["self", "row"], He.glo_ok hX hG (c.ck 13 rfl), (EB.of PySem.F.excBase_ValueError), T, iC, tI, (fun s y ws hK l => match ws, l with | [b0], _ => binds_kw F (n := 1) (ks := ["row"]) (ix := [0, 1]) (fun _ _ _ _ _ _ us ws l1 l2 => match us, l1, ws, l2 with | [_], _, [b0], _ => rfl) s [y] [b0] hK rfl rfl), exi1 (m := "no such text") F sc_NoText T (tk _ (by decide)) fun cdv A outer s H E => (pss_cons (ps_expr (pe_init_cl (mc := (0 : Nat)) (EB.of PySem.F.excBase_ValueError) (He.glo_ok hX hG (c.ck 21 rfl)) (bcl_ok (c.ck 35 rfl)).1 (bcl_ok (c.ck 35 rfl)).2 (by decide +kernel) (pa_cons (pe_var (i := 0) rfl (Or.inl rfl)) (pa_cons pe_str pa_nil))) rfl) (pss_one (ps_fldG PySem.F.store_ValueError (pe_var (i := 0) rfl (Or.inl rfl)) (pe_var (i := 1) rfl (Or.inl rfl)))))⟩
theorem fx_TooMany : RzF P w K mg base "TooMany" (He.ga K "TooMany") 1 ["limit"] := by
  obtain ⟨fd, F⟩ := c.df 5 (d := d5) rfl
  obtain ⟨T, iC, tI, tk⟩ := oex_ok (c.ck 37 rfl)
  exact ⟨_, _, _, _, _, fd, ["self", "limit"], He.glo_ok hX hG (c.ck 15 rfl), (EB.of PySem.F.excBase_ArithmeticError), T, iC, tI, (F.bindsN fun _ _ _ _ _ _ us hl => match us, hl with | [_, _], _ => rfl), exi1 (m := "too many") F sc_TooMany T (tk _ (by decide)) fun cdv A outer s H E => (pss_cons (ps_expr (pe_init_ty (EB.of PySem.F.excBase_ArithmeticError) (by kernel_rfl) (by decide +kernel) (He.free_ok hX hG (c.ck 22 rfl)) (by decide +kernel) (bty_ok (c.ck 38 rfl)) (by decide +kernel) (pa_cons (pe_var (i := 0) rfl (Or.inl rfl)) (pa_cons pe_str pa_nil))) rfl) (pss_one (ps_fldG PySem.F.store_ArithmeticError (pe_var (i := 0) rfl (Or.inl rfl)) (pe_var (i := 1) rfl (Or.inl rfl)))))⟩
theorem fk_TooMany_limit : RzK P w K mg base "TooMany" (He.ga K "TooMany") 1 ["limit"] ["limit"] [0] := by
  obtain ⟨fd, F⟩ := c.df 5 (d := d5) rfl
  obtain ⟨T, iC, tI, tk⟩ := oex_ok (c.ck 37 rfl)
  exact ⟨_, _, _, _, _, fd, ["self", "limit"], He.glo_ok hX hG (c.ck 15 rfl), (EB.of PySem.F.excBase_ArithmeticError), T, iC, tI, (fun s y ws hK l => match ws, l with | [b0], _ => binds_kw F (n := 1) (ks := ["limit"]) (ix := [0, 1]) (fun _ _ _ _ _ _ us ws l1 l2 => match us, l1, ws, l2 with | [_], _, [b0], _ => rfl) s [y] [b0] hK rfl rfl), exi1 (m := "too many") F sc_TooMany T (tk _ (by decide)) fun cdv A outer s H E => (pss_cons (ps_expr (pe_init_ty (EB.of PySem.F.excBase_ArithmeticError) (by kernel_rfl) (by decide +kernel) (He.free_ok hX hG (c.ck 22 rfl)) (by decide +kernel) (bty_ok (c.ck 38 rfl)) (by decide +kernel) (pa_cons (pe_var (i := 0) rfl (Or.inl rfl)) (pa_cons pe_str pa_nil))) rfl) (pss_one (ps_fldG PySem.F.store_ArithmeticError (pe_var (i := 0) rfl (Or.inl rfl)) (pe_var (i := 1) rfl (Or.inl rfl)))))⟩
theorem fx_NotAsked : RzF P w K mg base "NotAsked" (He.ga K "NotAsked") 1 ["who"] := by
  obtain ⟨fd, F⟩ := c.df 4 (d := d4) rfl
  obtain ⟨T, iC, tI, tk⟩ := oex_ok (c.ck 39 rfl)
  exact ⟨_, _, _, _, _, fd, ["self", "who"], He.glo_ok hX hG (c.ck 16 rfl), (EB.of PySem.F.excBase_RuntimeError), T, iC, tI, (F.bindsN fun _ _ _ _ _ _ us hl => match us, hl with | [_, _], _ => rfl), exi1 (m := "not asked") F sc_NotAsked T (tk _ (by decide)) fun cdv A outer s H E => (pss_cons (ps_expr (pe_init_ty (EB.of PySem.F.excBase_RuntimeError) (by kernel_rfl) (by decide +kernel) (He.free_ok hX hG (c.ck 23 rfl)) (by decide +kernel) (bty_ok (c.ck 40 rfl)) (by decide +kernel) (pa_cons (pe_var (i := 0) rfl (Or.inl rfl)) (pa_cons pe_str pa_nil))) rfl) (pss_one (ps_fldG PySem.F.store_RuntimeError (pe_var (i := 0) rfl (Or.inl rfl)) (pe_var (i := 1) rfl (Or.inl rfl)))))⟩
theorem fk_NotAsked_who : RzK P w K mg base "NotAsked" (He.ga K "NotAsked") 1 ["who"] ["who"] [0] := by
  obtain ⟨fd, F⟩ := c.df 4 (d := d4) rfl
  obtain ⟨T, iC, tI, tk⟩ := oex_ok (c.ck 39 rfl)
  exact ⟨_, _, _, _, _, fd, ["self", "who"], He.glo_ok hX hG (c.ck 16 rfl), (EB.of PySem.F.excBase_RuntimeError), T, iC, tI, (fun s y ws hK l => match ws, l with | [b0], _ => binds_kw F (n := 1) (ks := ["who"]) (ix := [0, 1]) (fun _ _ _ _ _ _ us ws l1 l2 => match us, l1, ws, l2 with | [_], _, [b0], _ => rfl) s [y] [b0] hK rfl rfl), exi1 (m := "not asked") F sc_NotAsked T (tk _ (by decide)) fun cdv A outer s H E => (pss_cons (ps_expr (pe_init_ty (EB.of PySem.F.excBase_RuntimeError) (by kernel_rfl) (by decide +kernel) (He.free_ok hX hG (c.ck 23 rfl)) (by decide +kernel) (bty_ok (c.ck 40 rfl)) (by decide +kernel) (pa_cons (pe_var (i := 0) rfl (Or.inl rfl)) (pa_cons pe_str pa_nil))) rfl) (pss_one (ps_fldG PySem.F.store_RuntimeError (pe_var (i := 0) rfl (Or.inl rfl)) (pe_var (i := 1) rfl (Or.inl rfl)))))⟩
theorem fx_NoSuch : RzF P w K mg base "NoSuch" (He.ga K "NoSuch") 1 ["who"] := by
  obtain ⟨fd, F⟩ := c.df 3 (d := d3) rfl
  obtain ⟨T, iC, tI, tk⟩ := oex_ok (c.ck 41 rfl)
  exact ⟨_, _, _, _, _, fd, ["self", "who"], He.glo_ok hX hG (c.ck 17 rfl), eb_KeyError, T, iC, tI, (F.bindsN fun _ _ _ _ _ _ us hl => match us, hl with | [_, _], _ => rfl), exi1 (m := "nothing by this name") F sc_NoSuch T (tk _ (by decide)) fun cdv A outer s H E => (pss_cons (ps_expr (pe_init_ty eb_KeyError (by kernel_rfl) (by decide +kernel) (He.free_ok hX hG (c.ck 18 rfl)) (by decide +kernel) (bty_ok (c.ck 42 rfl)) (by decide +kernel) (pa_cons (pe_var (i := 0) rfl (Or.inl rfl)) (pa_cons pe_str pa_nil))) rfl) (pss_one (ps_fldG store_KeyError (pe_var (i := 0) rfl (Or.inl rfl)) (pe_var (i := 1) rfl (Or.inl rfl)))))⟩
theorem fk_NoSuch_who : RzK P w K mg base "NoSuch" (He.ga K "NoSuch") 1 ["who"] ["who"] [0] := by
  obtain ⟨fd, F⟩ := c.df 3 (d := d3) rfl
  obtain ⟨T, iC, tI, tk⟩ := oex_ok (c.ck 41 rfl)
  exact ⟨_, _, _, _, _, fd, ["self", "who"], He.glo_ok hX hG (c.ck 17 rfl), eb_KeyError, T, iC, tI, (fun s y ws hK l => match ws, l with | [b0], _ => binds_kw F (n := 1) (ks := ["who"]) (ix := [0, 1]) (fun _ _ _ _ _ _ us ws l1 l2 => match us, l1, ws, l2 with | [_], _, [b0], _ => rfl) s [y] [b0] hK rfl rfl), exi1 (m := "nothing by this name") F sc_NoSuch T (tk _ (by decide)) fun cdv A outer s H E => (pss_cons (ps_expr (pe_init_ty eb_KeyError (by kernel_rfl) (by decide +kernel) (He.free_ok hX hG (c.ck 18 rfl)) (by decide +kernel) (bty_ok (c.ck 42 rfl)) (by decide +kernel) (pa_cons (pe_var (i := 0) rfl (Or.inl rfl)) (pa_cons pe_str pa_nil))) rfl) (pss_one (ps_fldG store_KeyError (pe_var (i := 0) rfl (Or.inl rfl)) (pe_var (i := 1) rfl (Or.inl rfl)))))⟩
theorem fx_NoThing : RzF P w K mg base "NoThing" (He.ga K "NoThing") 1 ["who"] := by
  obtain ⟨fd, F⟩ := c.df 2 (d := d2) rfl
  obtain ⟨T, iC, tI, tk⟩ := oex_ok (c.ck 43 rfl)
  exact ⟨_, _, _, _, _, fd, ["self", "who"], He.glo_ok hX hG (c.ck 11 rfl), (EB.of PySem.F.excBase_LookupError), T, iC, tI, (F.bindsN fun _ _ _ _ _ _ us hl => match us, hl with | [_, _], _ => rfl), exi1 (m := "no thing") F sc_NoThing T (tk _ (by decide)) fun cdv A outer s H E => (pss_cons (ps_expr (pe_init_ty (EB.of PySem.F.excBase_LookupError) (by kernel_rfl) (by decide +kernel) (He.free_ok hX hG (c.ck 19 rfl)) (by decide +kernel) (bty_ok (c.ck 44 rfl)) (by decide +kernel) (pa_cons (pe_var (i := 0) rfl (Or.inl rfl)) (pa_cons pe_str pa_nil))) rfl) (pss_one (ps_fldG PySem.F.store_LookupError (pe_var (i := 0) rfl (Or.inl rfl)) (pe_var (i := 1) rfl (Or.inl rfl)))))⟩
theorem fk_NoThing_who : RzK P w K mg base "NoThing" (He.ga K "NoThing") 1 ["who"] ["who"] [0] := by
  obtain ⟨fd, F⟩ := c.df 2 (d := d2) rfl
  obtain ⟨T, iC, tI, tk⟩ := oex_ok (c.ck 43 rfl)
  exact ⟨_, _, _, _, _, fd, ["self", "who"], He.glo_ok hX hG (c.ck 11 rfl), (EB.of PySem.F.excBase_LookupError), T, iC, tI, (fun s y ws hK l => match ws, l with | [b0], _ => binds_kw F (n := 1) (ks := ["who"]) (ix := [0, 1]) (fun _ _ _ _ _ _ us ws l1 l2 => match us, l1, ws, l2 with | [_], _, [b0], _ => rfl) s [y] [b0] hK rfl rfl), exi1 (m := "no thing") F sc_NoThing T (tk _ (by decide)) fun cdv A outer s H E => (pss_cons (ps_expr (pe_init_ty (EB.of PySem.F.excBase_LookupError) (by kernel_rfl) (by decide +kernel) (He.free_ok hX hG (c.ck 19 rfl)) (by decide +kernel) (bty_ok (c.ck 44 rfl)) (by decide +kernel) (pa_cons (pe_var (i := 0) rfl (Or.inl rfl)) (pa_cons pe_str pa_nil))) rfl) (pss_one (ps_fldG PySem.F.store_LookupError (pe_var (i := 0) rfl (Or.inl rfl)) (pe_var (i := 1) rfl (Or.inl rfl)))))⟩
theorem fn_pot {fd : FuncData} (F : FunD K (d6).name (d6).qual (d6).params (d6).body (d6).scope ((d6).dvs K) ((d6).kws K) (He.fAd K (d6).at_) fd) : FnA P w K mg base 1 (He.fAd K (d6).at_) fd ["_law_script", "_law_k"] (sp_pot K) :=
  fnA_of (a := a_pot K) F sc_pot (len_pot K) (fun cdv A outer s H E hr => ⟨_, (ss_cons (s_set (i := 2) ea_int sc_pot.nd)
 (ss_cons (s_if (ta_cmp o_lt (ea_v 1) (ea_callB c_len (He.free_ok hX hG (c.ck 0 rfl)) (ar_cons (ea_v 0) ar_nil))) (ss_one (s_set (i := 2) (ea_callB c_abs (He.free_ok hX hG (c.ck 1 rfl)) (ar_cons (ea_ix (ea_v 0) (ea_v 1)) ar_nil)) sc_pot.nd)) ss_nil)
 (ss_one (s_ret (ea_lst (ar_cons (ea_callB (c_max2 rfl) (He.free_ok hX hG (c.ck 2 rfl)) (ar_cons ea_int (ar_cons (ea_op o_sub (ea_v 2) (ea_op o_pow ea_int ea_int)) ar_nil))) (ar_cons (ea_op o_add (ea_op o_mod (ea_op o_pow (ea_op o_add (ea_op o_add (ea_op o_mod (ea_v 2) ea_int) (ea_op o_mul ea_int (ea_v 1))) ea_int) ea_int) ea_int) ea_int) ar_nil)))))))⟩) (law_pot K)
theorem g_pot : GF P w K mg base "_law_pot" 1 ["_law_script", "_law_k"] (sp_pot K) := by
  obtain ⟨fd, F⟩ := c.df 6 (d := d6) rfl
  exact ⟨_, fd, He.glo_ok hX hG (c.ck 45 rfl), F.kp, (F.bindsN fun _ _ _ _ _ _ us hl => match us, hl with | [_, _], _ => rfl), fn_pot hX hG c F⟩
theorem fn_take {fd : FuncData} (F : FunD K (d7).name (d7).qual (d7).params (d7).body (d7).scope ((d7).dvs K) ((d7).kws K) (He.fAd K (d7).at_) fd) : FnA P w K mg base 1 (He.fAd K (d7).at_) fd ["_law_pot_here", "_law_many"] (sp_take K) :=
  fnA_of (a := a_take K) F sc_take (len_take K) (fun cdv A outer s H E hr => ⟨_, (ss_cons (s_if (ta_cmp o_gt (ea_ix (ea_v 0) ea_int) ea_int) (ss_cons (s_asg (ea_callB c_divmod (He.free_ok hX hG (c.ck 3 rfl)) (ar_cons (ea_ix (ea_v 0) ea_int) (ar_cons (ea_v 1) ar_nil))) (g_tup (n := 2) rfl (gs_cons (g_sub (ea_v 0) ea_int) (gs_cons (g_name (i := 2) sc_take.nd) gs_nil)) wofAny))
 (ss_one (s_ret (ea_v 2)))) ss_nil)
 (ss_cons (s_asg (ea_op o_mod (ea_op o_add (ea_op o_mul (ea_ix (ea_v 0) ea_int) ea_int) ea_int) ea_int) (g_sub (ea_v 0) ea_int))
 (ss_one (s_ret (ea_op o_mod (ea_op o_fdiv (ea_op o_mod (ea_op o_mul (ea_ix (ea_v 0) ea_int) (ea_ix (ea_v 0) ea_int)) ea_int) ea_int) (ea_v 1))))))⟩) (law_take K)
theorem g_take : GF P w K mg base "_law_take" 1 ["_law_pot_here", "_law_many"] (sp_take K) := by
  obtain ⟨fd, F⟩ := c.df 7 (d := d7) rfl
  exact ⟨_, fd, He.glo_ok hX hG (c.ck 46 rfl), F.kp, (F.bindsN fun _ _ _ _ _ _ us hl => match us, hl with | [_, _], _ => rfl), fn_take hX hG c F⟩
theorem fn_among17 {fd : FuncData} (F : FunD K (d8).name (d8).qual (d8).params (d8).body (d8).scope ((d8).dvs K) ((d8).kws K) (He.fAd K (d8).at_) fd) : FnA P w K mg base 2 (He.fAd K (d8).at_) fd ["_law_pot_here", "_law_some"] (sp_among17 K) :=
  fnA_of (a := a_among17 K) F sc_among17 (len_among17 K) (fun cdv A outer s H E hr => ⟨_, (ss_one (s_ret (ea_ix (ea_v 1) (ea_call (g_take hX hG c) (hr.mono (by decide)) takesT (ar_cons (ea_v 0) (ar_cons (ea_callB c_len (He.free_ok hX hG (c.ck 0 rfl)) (ar_cons (ea_v 1) ar_nil)) ar_nil))))))⟩) (law_among17 K)
theorem g_among17 : GF P w K mg base "_law_among" 2 ["_law_pot_here", "_law_some"] (sp_among17 K) := by
  obtain ⟨fd, F⟩ := c.df 8 (d := d8) rfl
  exact ⟨_, fd, He.glo_ok hX hG (c.ck 47 rfl), F.kp, (F.bindsN fun _ _ _ _ _ _ us hl => match us, hl with | [_, _], _ => rfl), fn_among17 hX hG c F⟩
theorem fn_word17 {fd : FuncData} (F : FunD K (d10).name (d10).qual (d10).params (d10).body (d10).scope ((d10).dvs K) ((d10).kws K) (He.fAd K (d10).at_) fd) : FnA P w K mg base 3 (He.fAd K (d10).at_) fd ["_law_pot_here"] (sp_word17 K) :=
  fnA_of (a := a_word17 K) F sc_word17 (len_word17 K) (fun cdv A outer s H E hr => ⟨_, (ss_cons (s_set (i := 1) ea_str sc_word17.nd)
 (ss_one (s_ret (ea_join ea_str (ar_cons (ea_lc rfl sc_word17.nd (i_range1 (He.free_ok hX hG (c.ck 4 rfl)) (ar_cons (ea_call (g_take hX hG c) (hr.mono (by decide)) takesT (ar_cons (ea_v 0) (ar_cons ea_int ar_nil))) ar_nil)) (own := [("_law_k", 2)]) (blkOk_by (N := ["_law_pot_here", "_law_letters", "_law_k"]) (sc := defScope (top 18)) (by decide +kernel)) (wgt_name (by decide)) (fun s H C cl fp => (g_name (i := 2) sc_word17.nd)) (fun s H C cl fp => ⟨_, ts_nil⟩) (fun s H C cl fp => ⟨_, (ea_call (g_among17 hX hG c) (hr.mono (by decide)) tk0 (ar_cons (ea_v 0) (ar_cons (ea_v 1) ar_nil)))⟩) (s, H, 0, [], [])) ar_nil)))))⟩) (law_word17 K)
theorem g_word17 : GF P w K mg base "_law_word" 3 ["_law_pot_here"] (sp_word17 K) := by
  obtain ⟨fd, F⟩ := c.df 10 (d := d10) rfl
  exact ⟨_, fd, He.glo_ok hX hG (c.ck 48 rfl), F.kp, (F.bindsN fun _ _ _ _ _ _ us hl => match us, hl with | [_], _ => rfl), fn_word17 hX hG c F⟩
theorem fn_class17 {fd : FuncData} (F : FunD K (d11).name (d11).qual (d11).params (d11).body (d11).scope ((d11).dvs K) ((d11).kws K) (He.fAd K (d11).at_) fd) : FnA P w K mg base 1 (He.fAd K (d11).at_) fd ["_law_e"] (sp_class17 K) :=
  fnA_of (a := a_class17 K) F sc_class17 (len_class17 K) (fun cdv A outer s H E hr => ⟨_, (ss_cons (s_set (i := 1) (ea_lst (ar_cons (ea_callB (c_isX (excs_ok (c.ck 6 rfl))) (He.free_ok hX hG (c.ck 7 rfl)) (ar_cons (ea_v 0) (ar_cons (ea_gref (He.glo_ok hX hG (c.ck 10 rfl))) ar_nil))) (ar_cons (ea_callB (c_isX (excs_ok (c.ck 6 rfl))) (He.free_ok hX hG (c.ck 7 rfl)) (ar_cons (ea_v 0) (ar_cons (ea_gref (He.glo_ok hX hG (c.ck 9 rfl))) ar_nil))) (ar_cons (ea_callB (c_isX (excs_ok (c.ck 6 rfl))) (He.free_ok hX hG (c.ck 7 rfl)) (ar_cons (ea_v 0) (ar_cons (ea_gref (He.glo_ok hX hG (c.ck 8 rfl))) ar_nil))) (ar_cons (ea_callB (c_isX (excs_ok (c.ck 6 rfl))) (He.free_ok hX hG (c.ck 7 rfl)) (ar_cons (ea_v 0) (ar_cons (ea_gref (He.glo_ok hX hG (c.ck 5 rfl))) ar_nil))) ar_nil))))) sc_class17.nd)
 (ss_cons (s_set (i := 1) (ea_op o_add (ea_v 1) (ea_lst (ar_cons (ea_callB (c_isX (excs_ok (c.ck 6 rfl))) (He.free_ok hX hG (c.ck 7 rfl)) (ar_cons (ea_v 0) (ar_cons (ea_gref (He.glo_ok hX hG (c.ck 14 rfl))) ar_nil))) (ar_cons (ea_callB (c_isX (excs_ok (c.ck 6 rfl))) (He.free_ok hX hG (c.ck 7 rfl)) (ar_cons (ea_v 0) (ar_cons (ea_gref (He.glo_ok hX hG (c.ck 13 rfl))) ar_nil))) (ar_cons (ea_callB (c_isX (excs_ok (c.ck 6 rfl))) (He.free_ok hX hG (c.ck 7 rfl)) (ar_cons (ea_v 0) (ar_cons (ea_gref (He.glo_ok hX hG (c.ck 12 rfl))) ar_nil))) (ar_cons (ea_callB (c_isX (excs_ok (c.ck 6 rfl))) (He.free_ok hX hG (c.ck 7 rfl)) (ar_cons (ea_v 0) (ar_cons (ea_gref (He.glo_ok hX hG (c.ck 11 rfl))) ar_nil))) ar_nil)))))) sc_class17.nd)
 (ss_cons (s_set (i := 1) (ea_op o_add (ea_v 1) (ea_lst (ar_cons (ea_callB (c_isX (excs_ok (c.ck 6 rfl))) (He.free_ok hX hG (c.ck 7 rfl)) (ar_cons (ea_v 0) (ar_cons (ea_gref (He.glo_ok hX hG (c.ck 17 rfl))) ar_nil))) (ar_cons (ea_callB (c_isX (excs_ok (c.ck 6 rfl))) (He.free_ok hX hG (c.ck 7 rfl)) (ar_cons (ea_v 0) (ar_cons (ea_gref (He.glo_ok hX hG (c.ck 16 rfl))) ar_nil))) (ar_cons (ea_callB (c_isX (excs_ok (c.ck 6 rfl))) (He.free_ok hX hG (c.ck 7 rfl)) (ar_cons (ea_v 0) (ar_cons (ea_gref (He.glo_ok hX hG (c.ck 15 rfl))) ar_nil))) ar_nil))))) sc_class17.nd)
 (ss_one (s_ret (ea_lc rfl sc_class17.nd (i_range1 (He.free_ok hX hG (c.ck 4 rfl)) (ar_cons ea_int ar_nil)) (own := [("_law_k", 2)]) (blkOk_by (N := ["_law_e", "_law_some", "_law_k"]) (sc := defScope (top 19)) (by decide +kernel)) (wgt_name (by decide)) (fun s H C cl fp => (g_name (i := 2) sc_class17.nd)) (fun s H C cl fp => ⟨_, (ts_one (ta_val (ea_ix (ea_v 1) (ea_v 2))))⟩) (fun s H C cl fp => ⟨_, (ea_v 2)⟩) (s, H, 0, [], [])))))))⟩) (law_class17 K)
theorem g_class17 : GF P w K mg base "_law_class" 1 ["_law_e"] (sp_class17 K) := by
  obtain ⟨fd, F⟩ := c.df 11 (d := d11) rfl
  exact ⟨_, fd, He.glo_ok hX hG (c.ck 49 rfl), F.kp, (F.bindsN fun _ _ _ _ _ _ us hl => match us, hl with | [_], _ => rfl), fn_class17 hX hG c F⟩
theorem fn_stands17 {fd : FuncData} (F : FunD K (d12).name (d12).qual (d12).params (d12).body (d12).scope ((d12).dvs K) ((d12).kws K) (He.fAd K (d12).at_) fd) : FnA P w K mg base 1 (He.fAd K (d12).at_) fd ["_law_e"] (sp_stands17 K) :=
  fnA_of (a := a_stands17 K) F sc_stands17 (len_stands17 K) (fun cdv A outer s H E hr => ⟨_, (ss_cons (s_set (i := 1) (ea_lst (ar_cons (ea_callB (c_isX (excs_ok (c.ck 6 rfl))) (He.free_ok hX hG (c.ck 7 rfl)) (ar_cons (ea_v 0) (ar_cons (ea_gref (He.glo_ok hX hG (c.ck 21 rfl))) ar_nil))) (ar_cons (ea_callB (c_isX (excs_ok (c.ck 6 rfl))) (He.free_ok hX hG (c.ck 7 rfl)) (ar_cons (ea_v 0) (ar_cons (ea_bty (He.free_ok hX hG (c.ck 20 rfl))) ar_nil))) (ar_cons (ea_callB (c_isX (excs_ok (c.ck 6 rfl))) (He.free_ok hX hG (c.ck 7 rfl)) (ar_cons (ea_v 0) (ar_cons (ea_bty (He.free_ok hX hG (c.ck 19 rfl))) ar_nil))) (ar_cons (ea_callB (c_isX (excs_ok (c.ck 6 rfl))) (He.free_ok hX hG (c.ck 7 rfl)) (ar_cons (ea_v 0) (ar_cons (ea_bty (He.free_ok hX hG (c.ck 18 rfl))) ar_nil))) ar_nil))))) sc_stands17.nd)
 (ss_one (s_ret (ea_op o_add (ea_v 1) (ea_lst (ar_cons (ea_callB (c_isX (excs_ok (c.ck 6 rfl))) (He.free_ok hX hG (c.ck 7 rfl)) (ar_cons (ea_v 0) (ar_cons (ea_bty (He.free_ok hX hG (c.ck 23 rfl))) ar_nil))) (ar_cons (ea_callB (c_isX (excs_ok (c.ck 6 rfl))) (He.free_ok hX hG (c.ck 7 rfl)) (ar_cons (ea_v 0) (ar_cons (ea_bty (He.free_ok hX hG (c.ck 22 rfl))) ar_nil))) ar_nil)))))))⟩) (law_stands17 K)
theorem g_stands17 : GF P w K mg base "_law_stands" 1 ["_law_e"] (sp_stands17 K) := by
  obtain ⟨fd, F⟩ := c.df 12 (d := d12) rfl
  exact ⟨_, fd, He.glo_ok hX hG (c.ck 50 rfl), F.kp, (F.bindsN fun _ _ _ _ _ _ us hl => match us, hl with | [_], _ => rfl), fn_stands17 hX hG c F⟩
theorem fn_due17 {fd : FuncData} (F : FunD K (d13).name (d13).qual (d13).params (d13).body (d13).scope ((d13).dvs K) ((d13).kws K) (He.fAd K (d13).at_) fd) : FnA P w K mg base 1 (He.fAd K (d13).at_) fd ["_law_k"] (sp_due17 K) :=
  fnA_of (a := a_due17 K) F sc_due17 (len_due17 K) (fun cdv A outer s H E hr => ⟨_, (ss_cons (s_if (ta_cmp o_lt (ea_v 0) ea_int) (ss_one (s_ret (ea_lst (ar_cons ea_bl (ar_cons ea_bl (ar_cons ea_bl (ar_cons ea_bl (ar_cons ea_bl (ar_cons ea_bl ar_nil))))))))) ss_nil)
 (ss_cons (s_if (ta_cmp (o_eq ⟨_, hr⟩) (ea_v 0) ea_int) (ss_one (s_ret (ea_lst (ar_cons ea_bl (ar_cons ea_bl (ar_cons ea_bl (ar_cons ea_bl (ar_cons ea_bl (ar_cons ea_bl ar_nil))))))))) ss_nil)
 (ss_cons (s_if (ta_cmp (o_eq ⟨_, hr⟩) (ea_v 0) ea_int) (ss_one (s_ret (ea_lst (ar_cons ea_bl (ar_cons ea_bl (ar_cons ea_bl (ar_cons ea_bl (ar_cons ea_bl (ar_cons ea_bl ar_nil))))))))) ss_nil)
 (ss_one (s_ret (ea_lst (ar_cons ea_bl (ar_cons ea_bl (ar_cons ea_bl (ar_cons ea_bl (ar_cons (ea_cmp (o_eq ⟨_, hr⟩) (ea_v 0) ea_int) (ar_cons (ea_cmp (o_eq ⟨_, hr⟩) (ea_v 0) ea_int) ar_nil))))))))))))⟩) (law_due17 K)
theorem g_due17 : GF P w K mg base "_law_due" 1 ["_law_k"] (sp_due17 K) := by
  obtain ⟨fd, F⟩ := c.df 13 (d := d13) rfl
  exact ⟨_, fd, He.glo_ok hX hG (c.ck 51 rfl), F.kp, (F.bindsN fun _ _ _ _ _ _ us hl => match us, hl with | [_], _ => rfl), fn_due17 hX hG c F⟩
theorem fn_maderight17 {fd : FuncData} (F : FunD K (d14).name (d14).qual (d14).params (d14).body (d14).scope ((d14).dvs K) ((d14).kws K) (He.fAd K (d14).at_) fd) : FnA P w K mg base 2 (He.fAd K (d14).at_) fd ["_law_made", "_law_word_here", "_law_other", "_law_number"] (sp_maderight17 K) :=
  fnA_of (a := a_maderight17 K) F sc_maderight17 (len_maderight17 K) (fun cdv A outer s H E hr => ⟨_, (ss_cons (s_for passT rfl (i_enum (He.free_ok hX hG (c.ck 24 rfl)) (ar_cons (ea_v 0) ar_nil)) (g_tup (n := 2) rfl (gs_cons (g_name (i := 4) sc_maderight17.nd) (gs_cons (g_name (i := 5) sc_maderight17.nd) gs_nil)) wofAny) (ss_one (s_if (WstA.t (wa_or (ta_cmp (o_ne ⟨_, hr⟩) (ea_call (g_class17 hX hG c) (hr.mono (by decide)) takesT (ar_cons (ea_v 5) ar_nil)) (ea_lst (ar_cons (ea_v 4) ar_nil))) (wa_or1 (ta_cmp (o_ne ⟨_, hr⟩) (ea_call (g_stands17 hX hG c) (hr.mono (by decide)) takesT (ar_cons (ea_v 5) ar_nil)) (ea_call (g_due17 hX hG c) (hr.mono (by decide)) takesT (ar_cons (ea_v 4) ar_nil)))))) (ss_one (s_ret ea_bl)) ss_nil)))
 (ss_cons (s_set (i := 6) (ea_lst (ar_cons (ea_xvf (exfs_ok (c.ck 6 rfl) (c.ck 25 rfl) (f := "what") (by decide)) (ea_ix (ea_v 0) ea_int)) (ar_cons (ea_xvf (exfs_ok (c.ck 6 rfl) (c.ck 25 rfl) (f := "who") (by decide)) (ea_ix (ea_v 0) ea_int)) (ar_cons (ea_xvf (exfs_ok (c.ck 6 rfl) (c.ck 25 rfl) (f := "row") (by decide)) (ea_ix (ea_v 0) ea_int)) (ar_cons (ea_xvf (exfs_ok (c.ck 6 rfl) (c.ck 25 rfl) (f := "who") (by decide)) (ea_ix (ea_v 0) ea_int)) (ar_cons (ea_xvf (exfs_ok (c.ck 6 rfl) (c.ck 25 rfl) (f := "who") (by decide)) (ea_ix (ea_v 0) ea_int)) (ar_cons (ea_xvf (exfs_ok (c.ck 6 rfl) (c.ck 25 rfl) (f := "who") (by decide)) (ea_ix (ea_v 0) ea_int)) (ar_cons (ea_xvf (exfs_ok (c.ck 6 rfl) (c.ck 25 rfl) (f := "limit") (by decide)) (ea_ix (ea_v 0) ea_int)) ar_nil)))))))) sc_maderight17.nd)
 (ss_one (s_ret (ea_cmp (o_eq ⟨_, hr⟩) (ea_callB (c_reprG ⟨_, hr⟩) (He.free_ok hX hG (c.ck 26 rfl)) (ar_cons (ea_v 6) ar_nil)) (ea_callB (c_reprG ⟨_, hr⟩) (He.free_ok hX hG (c.ck 26 rfl)) (ar_cons (ea_lst (ar_cons (ea_v 1) (ar_cons (ea_v 2) (ar_cons (ea_v 3) (ar_cons (ea_v 3) (ar_cons (ea_v 1) (ar_cons (ea_v 2) (ar_cons (ea_v 3) ar_nil)))))))) ar_nil)))))))⟩) (law_maderight17 K)
theorem g_maderight17 : GF P w K mg base "_law_made_right" 2 ["_law_made", "_law_word_here", "_law_other", "_law_number"] (sp_maderight17 K) := by
  obtain ⟨fd, F⟩ := c.df 14 (d := d14) rfl
  exact ⟨_, fd, He.glo_ok hX hG (c.ck 52 rfl), F.kp, (F.bindsN fun _ _ _ _ _ _ us hl => match us, hl with | [_, _, _, _], _ => rfl), fn_maderight17 hX hG c F⟩
theorem fn_takeX {fd : FuncData} (F : FunD K (d7).name (d7).qual (d7).params (d7).body (d7).scope ((d7).dvs K) ((d7).kws K) (He.fAd K (d7).at_) fd) : FnA P w K mg base 1 (He.fAd K (d7).at_) fd ["_law_pot_here", "_law_many"] (sp_takeX K) :=
  fnA_of (a := a_takeX K) F sc_takeX (len_takeX K) (fun cdv A outer s H E hr => ⟨_, (ss_cons (s_if (ta_cmp o_gt (ea_ix (ea_v 0) ea_int) ea_int) (ss_cons (s_asg (ea_callB c_divmod (He.free_ok hX hG (c.ck 3 rfl)) (ar_cons (ea_ix (ea_v 0) ea_int) (ar_cons (ea_v 1) ar_nil))) (g_tup (n := 2) rfl (gs_cons (g_sub (ea_v 0) ea_int) (gs_cons (g_name (i := 2) sc_takeX.nd) gs_nil)) wofAny))
 (ss_one (s_ret (ea_v 2)))) ss_nil)
 (ss_cons (s_asg (ea_op o_mod (ea_op o_add (ea_op o_mul (ea_ix (ea_v 0) ea_int) ea_int) ea_int) ea_int) (g_sub (ea_v 0) ea_int))
 (ss_one (s_ret (ea_op o_mod (ea_op o_fdiv (ea_op o_mod (ea_op o_mul (ea_ix (ea_v 0) ea_int) (ea_ix (ea_v 0) ea_int)) ea_int) ea_int) (ea_v 1))))))⟩) (law_takeX K)
theorem g_takeX : GF P w K mg base "_law_take" 1 ["_law_pot_here", "_law_many"] (sp_takeX K) := by
  obtain ⟨fd, F⟩ := c.df 7 (d := d7) rfl
  exact ⟨_, fd, He.glo_ok hX hG (c.ck 46 rfl), F.kp, (F.bindsN fun _ _ _ _ _ _ us hl => match us, hl with | [_, _], _ => rfl), fn_takeX hX hG c F⟩
theorem fn_right17 {fd : FuncData} (F : FunD K (d15).name (d15).qual (d15).params (d15).body (d15).scope ((d15).dvs K) ((d15).kws K) (He.fAd K (d15).at_) fd) : FnA P w K mg base 4 (He.fAd K (d15).at_) fd ["_law_pot_here"] (sp_right17 K) :=
  fnA_of (a := a_right17 K) F sc_right17 (len_right17 K) (fun cdv A outer s H E hr => ⟨_, (ss_cons (s_par (i := 1) (j := 2) rfl sc_right17.nd (ar_cons (ea_call (g_takeX hX hG c) (hr.mono (by decide)) takesT (ar_cons (ea_v 0) (ar_cons (ea_op o_pow ea_int ea_int) ar_nil))) (ar_cons (ea_call (g_takeX hX hG c) (hr.mono (by decide)) takesT (ar_cons (ea_v 0) (ar_cons ea_int ar_nil))) ar_nil)))
 (ss_cons (s_par (i := 3) (j := 4) rfl sc_right17.nd (ar_cons (ea_call (g_word17 hX hG c) (hr.mono (by decide)) takesT (ar_cons (ea_v 0) ar_nil)) (ar_cons (ea_call (g_word17 hX hG c) (hr.mono (by decide)) takesT (ar_cons (ea_v 0) ar_nil)) ar_nil)))
 (ss_cons (s_set (i := 5) (ea_lst (ar_cons (ea_xv0 PySem.F.excBase_ValueError (exb_ok (c.ck 30 rfl)).1 (He.glo_ok hX hG (c.ck 9 rfl)) (exb_ok (c.ck 30 rfl)).2.1 (ea_v 4)) (ar_cons (ea_xv0 PySem.F.excBase_ValueError (exb_ok (c.ck 29 rfl)).1 (He.glo_ok hX hG (c.ck 8 rfl)) (exb_ok (c.ck 29 rfl)).2.1 (ea_v 4)) (ar_cons (ea_xv0 PySem.F.excBase_ValueError (exb_ok (c.ck 28 rfl)).1 (He.glo_ok hX hG (c.ck 5 rfl)) (exb_ok (c.ck 28 rfl)).2.1 (ea_v 4)) (ar_cons (ea_xv0 PySem.F.excBase_ValueError (exb_ok (c.ck 27 rfl)).1 (He.glo_ok hX hG (c.ck 14 rfl)) (exb_ok (c.ck 27 rfl)).2.1 (ea_v 4)) ar_nil))))) sc_right17.nd)
 (ss_cons (s_set (i := 6) (ea_op o_add (ea_op o_add (ea_lst (ar_cons (ea_xv (fx_NoYard hX hG c) (hr.mono (by decide)) (ar_cons (ea_v 3) (ar_cons (ea_v 2) ar_nil))) ar_nil)) (ea_v 5)) (ea_lst (ar_cons (ea_xv (fx_NoText hX hG c) (hr.mono (by decide)) (ar_cons (ea_v 1) ar_nil)) (ar_cons (ea_xv0 PySem.F.excBase_ValueError (exb_ok (c.ck 31 rfl)).1 (He.glo_ok hX hG (c.ck 12 rfl)) (exb_ok (c.ck 31 rfl)).2.1 (ea_v 4)) ar_nil)))) sc_right17.nd)
 (ss_cons (s_set (i := 6) (ea_op o_add (ea_v 6) (ea_lst (ar_cons (ea_xv (fx_NoThing hX hG c) (hr.mono (by decide)) (ar_cons (ea_v 1) ar_nil)) (ar_cons (ea_xv (fx_NoSuch hX hG c) (hr.mono (by decide)) (ar_cons (ea_v 3) ar_nil)) (ar_cons (ea_xv (fx_NotAsked hX hG c) (hr.mono (by decide)) (ar_cons (ea_v 2) ar_nil)) (ar_cons (ea_xv (fx_TooMany hX hG c) (hr.mono (by decide)) (ar_cons (ea_v 1) ar_nil)) ar_nil)))))) sc_right17.nd)
 (ss_cons (s_if (ta_not (ta_val (ea_call (g_maderight17 hX hG c) (hr.mono (by decide)) takesT (ar_cons (ea_v 6) (ar_cons (ea_v 3) (ar_cons (ea_v 2) (ar_cons (ea_v 1) ar_nil))))))) (ss_one (s_ret ea_bl)) ss_nil)
 (ss_cons (s_set (i := 6) (ea_op o_add (ea_op o_add (ea_lst (ar_cons (ea_xvK (fk_NoYard_who_what hX hG c) (hr.mono (by decide)) (kw_cons (ea_v 2) (kw_cons (ea_v 3) kw_nil))) ar_nil)) (ea_v 5)) (ea_lst (ar_cons (ea_xvK (fk_NoText_row hX hG c) (hr.mono (by decide)) (kw_cons (ea_v 1) kw_nil)) (ar_cons (ea_xv0 PySem.F.excBase_ValueError (exb_ok (c.ck 31 rfl)).1 (He.glo_ok hX hG (c.ck 12 rfl)) (exb_ok (c.ck 31 rfl)).2.1 (ea_v 4)) ar_nil)))) sc_right17.nd)
 (ss_cons (s_set (i := 6) (ea_op o_add (ea_v 6) (ea_lst (ar_cons (ea_xvK (fk_NoThing_who hX hG c) (hr.mono (by decide)) (kw_cons (ea_v 1) kw_nil)) (ar_cons (ea_xvK (fk_NoSuch_who hX hG c) (hr.mono (by decide)) (kw_cons (ea_v 3) kw_nil)) (ar_cons (ea_xvK (fk_NotAsked_who hX hG c) (hr.mono (by decide)) (kw_cons (ea_v 2) kw_nil)) (ar_cons (ea_xvK (fk_TooMany_limit hX hG c) (hr.mono (by decide)) (kw_cons (ea_v 1) kw_nil)) ar_nil)))))) sc_right17.nd)
 (ss_cons (s_if (ta_not (ta_val (ea_call (g_maderight17 hX hG c) (hr.mono (by decide)) takesT (ar_cons (ea_v 6) (ar_cons (ea_v 3) (ar_cons (ea_v 2) (ar_cons (ea_v 1) ar_nil))))))) (ss_one (s_ret ea_bl)) ss_nil)
 (ss_one (s_ret (ea_and (ea_cmp o_is (ea_xvf (exfs_ok (c.ck 6 rfl) (c.ck 25 rfl) (f := "who") (by decide)) (ea_xv (fx_NoYard hX hG c) (hr.mono (by decide)) (ar_cons ea_str (ar_cons ea_non ar_nil)))) ea_non) (ea_one (ea_cmp o_is (ea_xvf (exfs_ok (c.ck 6 rfl) (c.ck 25 rfl) (f := "who") (by decide)) (ea_xv (fx_NotAsked hX hG c) (hr.mono (by decide)) (ar_cons ea_non ar_nil))) ea_non))))))))))))))⟩) (law_right17 K)
theorem g_right17 : GF P w K mg base "_law_right" 4 ["_law_pot_here"] (sp_right17 K) := by
  obtain ⟨fd, F⟩ := c.df 15 (d := d15) rfl
  exact ⟨_, fd, He.glo_ok hX hG (c.ck 53 rfl), F.kp, (F.bindsN fun _ _ _ _ _ _ us hl => match us, hl with | [_], _ => rfl), fn_right17 hX hG c F⟩
theorem fn_law {fd : FuncData} (F : FunD K (d16).name (d16).qual (d16).params (d16).body (d16).scope ((d16).dvs K) ((d16).kws K) (He.fAd K (d16).at_) fd) : FnA P w K mg base 5 (He.fAd K (d16).at_) fd ["_law_script"] (sp_law K) :=
  fnA_of (a := a_law K) F sc_law (len_law K) (fun cdv A outer s H E hr => ⟨_, (ss_cons (s_for passT rfl (i_range1 (He.free_ok hX hG (c.ck 4 rfl)) (ar_cons (ea_callB (c_max2 rfl) (He.free_ok hX hG (c.ck 2 rfl)) (ar_cons ea_int (ar_cons (ea_callB (c_min2 rfl) (He.free_ok hX hG (c.ck 32 rfl)) (ar_cons ea_int (ar_cons (ea_callB c_len (He.free_ok hX hG (c.ck 0 rfl)) (ar_cons (ea_v 0) ar_nil)) ar_nil))) ar_nil))) ar_nil)) (g_name (i := 1) sc_law.nd) (ss_one (s_if (ta_not (ta_val (ea_call (g_right17 hX hG c) (hr.mono (by decide)) takesT (ar_cons (ea_call (g_pot hX hG c) (hr.mono (by decide)) takesT (ar_cons (ea_v 0) (ar_cons (ea_v 1) ar_nil))) ar_nil)))) (ss_one (s_ret ea_bl)) ss_nil)))
 (ss_one (s_ret ea_bl)))⟩) (law_law K)
end

theorem facts {P : Program} {w : World} {K : PySem.W.Frag} {h : Heap} {mg : Str → Option Value} {f : Addr} (hX : K.In h) (hG : h.Ns mainGlobals mg) (hfa : mg ("law" : Str) = some (.ref f)) (c : SaysX fc fn K) :
    ∃ fd : FuncData, (∀ (s : Shared) (v : Value), BindsTo s fd ⟨[v], []⟩ [("_law_script", v)]) ∧ (∀ ns : List Int, ns.length ≤ 63 → Bits ns → sp_law K [.scr ns] noS (fun d _ => d = .bl true) noX) ∧
      ∀ base : Heap, K.In base → base.Ns mainGlobals mg → FnA P w K mg base 5 f fd ["_law_script"] (sp_law K) := by
  obtain ⟨fd, F⟩ := c.df 16 (d := d16) rfl
  have e := hfa.symm.trans (He.glo_ok hX hG (c.ck 54 rfl))
  cases e
  have b := FunD.bindsA (ps := ["_law_script"]) F fun _ _ _ _ _ _ us hl => match us, hl with | [_], _ => rfl
  refine ⟨fd, fun s v => b s [v] rfl, fun ns h1 h2 => ⟨ns, rfl, h1, h2, of_decide_eq_true (c.ck 33 rfl), rfl⟩, fun base _ _ => fn_law hX hG c F⟩
end A
open PySem PySem.W PySem.Calls PyProof.Rows
theorem PySem.Challenge.cw_noaslong_k17_refusals_made_holds : PySem.Challenge.rw_noaslong_k17_refusals_made.Holds := by
  refine A.pre_ fun w mg g h Y G hmg => ?_
  obtain ⟨K, KX, c⟩ := Y
  obtain ⟨fd, hb, hs, hF⟩ := A.facts (P := A.R.prog) (w := w) KX G hmg c
  exact ⟨K, fd, A.sp_law K, KX, hb, hs, hF⟩

