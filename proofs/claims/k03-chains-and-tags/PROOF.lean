import PyProof.Rows.All
import Wide.All
import OpenK.AllK
import Wide.FinOn
import HandS.ForMost
import HandS.IsInst
import HandS.TupAny
import HandS.TupMul
import HandS.Style
import HandS.Flow
import HandS.Deep
import HandS.Zip
import KE.GoesNew
import KE.GoesMore
import KE.GoesEnum
import HandS.EndBits
import HandS.Set
import HandS.SetFor
import HandS.Strs
import HandS.Text
import HandS.More
import PyProof.StrOps2
import HandS.Finally
import PyProof.DictUpdate
import HandS.Lambda
import HandS.Steps
import HandS.DictComp
import KE.SortKeyHeap
import KE.SortData
import KE.KLam
import HandS.SortKw
import HandS.Flt
import HandS.EndTab
import HandS.Dict
import KE.KNestM
import PySem.Challenge.RW_endonce_k03_chains_and_tags
set_option Elab.async false
set_option linter.all false
set_option maxRecDepth 100000
set_option maxHeartbeats 4000000
namespace DL
open PySem PySem.Spec L2
abbrev D := PyData
def UE (X : Cx) (e : Expr) : TE := fun sg H Q => ∀ pins s, Inv X pins sg H s → wpAny (model X.prog X.w) X.A (eval e X.env) (EP X pins sg Q) X.xe s
theorem UE.pe {X : Cx} {e : Expr} : PE X e (UE X e) := ⟨fun pins s _ _ _ I h => h pins s I⟩
theorem UE.of {X : Cx} {e : Expr} {t : TE} {sg H Q} (h : PE X e t) (q : t sg H Q) : UE X e sg H Q := fun pins s I => h.run pins s sg H Q I q
def UT (X : Cx) (e : Expr) : TT := fun sg H Q => ∀ pins s, Inv X pins sg H s → wpAny (model X.prog X.w) X.A (isTrue e X.env (eval e X.env)) (TP X pins sg Q) X.xe s
theorem UT.pt {X : Cx} {e : Expr} : PT X e (UT X e) := ⟨fun pins s _ _ _ I h => h pins s I⟩
theorem UT.of {X : Cx} {e : Expr} {t : TT} {sg H Q} (h : PT X e t) (q : t sg H Q) : UT X e sg H Q := fun pins s I => h.run pins s sg H Q I q
def UA (X : Cx) (es : List Expr) : TA := fun sg H Q => ∀ pos pins s, Inv X pins sg H s → wpAny (model X.prog X.w) X.A (spliced (backTo pos (starEach es X.env))) (AP X pins sg Q) X.xe s
theorem UA.pa {X : Cx} {es : List Expr} : PA X es (UA X es) := ⟨fun pos pins s _ _ _ I h => h pos pins s I⟩
theorem UA.of {X : Cx} {es : List Expr} {t : TA} {sg H Q} (h : PA X es t) (q : t sg H Q) : UA X es sg H Q := fun pos pins s I => h.run pos pins s sg H Q I q
def US (X : Cx) (st : Stmt) : TS := fun D sg H => ∀ pins s, Inv X pins sg H s → wpAny (model X.prog X.w) X.A (exec st X.env) (SP X pins D) X.xe s
theorem US.ps {X : Cx} {st : Stmt} : PS X st (US X st) := ⟨fun pins s _ _ _ I h => h pins s I⟩
theorem US.of {X : Cx} {st : Stmt} {t : TS} {sg H D} (h : PS X st t) (q : t D sg H) : US X st D sg H := fun pins s I => h.run pins s sg H D I q
def USs (X : Cx) (st : List Stmt) : TS := fun D sg H => ∀ pins s, Inv X pins sg H s → wpAny (model X.prog X.w) X.A (execs st X.env) (SP X pins D) X.xe s
theorem USs.pss {X : Cx} {st : List Stmt} : PSs X st (USs X st) := ⟨fun pins s _ _ _ I h => h pins s I⟩
theorem USs.of {X : Cx} {st : List Stmt} {t : TS} {sg H D} (h : PSs X st t) (q : t D sg H) : USs X st D sg H := fun pins s I => h.run pins s sg H D I q
def UG (X : Cx) (tg : Expr) : TG := fun v sg H Q => ∀ pins s u, Inv X pins sg H s → RelV v u → wpAny (model X.prog X.w) X.A (assign tg X.env u) (fun _ s' => ∃ sg' H', Inv X pins sg' H' s' ∧ Q sg' H') X.xe s
theorem UG.pg {X : Cx} {tg : Expr} : PG X tg (UG X tg) := ⟨fun pins s _ _ _ u _ I r h => h pins s u I r⟩
theorem UG.of {X : Cx} {tg : Expr} {t : TG} {v sg H Q} (h : PG X tg t) (q : t v sg H Q) : UG X tg v sg H Q := fun pins s u I r => h.run pins s sg H v u Q I r q
def UI (X : Cx) (tg it : Expr) : TI := fun sg H R => ∀ pins s, Inv X pins sg H s → wpAny (model X.prog X.w) X.A (eval it X.env) (fun v s1 => wpAny (model X.prog X.w) X.A (pyIter v) (PIE X pins sg tg R) X.xe s1) X.xe s
theorem UI.pi {X : Cx} {tg it : Expr} : PI X tg it (UI X tg it) := ⟨fun pins s _ _ _ I h => h pins s I⟩
theorem UI.of {X : Cx} {tg it : Expr} {t : TI} {sg H R} (h : PI X tg it t) (q : t sg H R) : UI X tg it sg H R := fun pins s I => h.run pins s sg H R I q
/-- an operator, a call, a method, a subscript: any rule that serves -/
def opB (X : Cx) (f : Value → Value → Sem Value) : R2 := fun x y H Q => ∃ r, OpR X f r ∧ r x y H Q
theorem opB_ok {X : Cx} {f : Value → Value → Sem Value} : OpR X f (opB X f) := by
  intro pins s sg H x y v u Q I rx ry h
  obtain ⟨r, hr, h⟩ := h
  exact hr pins s sg H x y v u Q I rx ry h
def caB (X : Cx) (f : Value) : List V → Hp → VK → Prop := fun xs H Q => ∃ r, CallR X f r ∧ r xs H Q
theorem caB_ok {X : Cx} {f : Value} : CallR X f (caB X f) := by
  intro pins s sg H xs us Q I rx h
  obtain ⟨r, hr, h⟩ := h
  exact hr pins s sg H xs us Q I rx h
def ixB (X : Cx) : R2 := fun x y H Q => ∃ r, IxR X r ∧ r x y H Q
theorem ixB_ok {X : Cx} : IxR X (ixB X) := by
  intro b hb pins s sg H x y v u Q I rx ry h
  obtain ⟨r, hr, h⟩ := h
  exact hr b hb pins s sg H x y v u Q I rx ry h
def KT (K : PySem.W.Frag) (a : Addr) (xs : List V) : Prop :=
  ∃ (o : Obj) (its : Array Value) (n : Nat), K.lookup a = some o ∧ o.cls = .type "tuple" ∧ o.data = .seq its n ∧ its.size ≤ sizeLine ∧ Vals xs its.toList
mutual
inductive Rep (K : PySem.W.Frag) (L : Addr → Prop) (H : Hp) : V → D → Prop
  | non : Rep K L H .non .none
  | bl (b : Bool) : Rep K L H (.bl b) (.bool b)
  | int (i : Int) : Rep K L H (.int i) (.int i)
  | str (x : Str) (h : PyData.strOk x = true) : Rep K L H (.str x) (.str x)
  | lst {a : Addr} {xs : List V} {ds : List D} : H a = some (.lst xs) → ¬ L a → RepL K L H xs ds → Rep K L H (.ref a) (.list ds)
  | tup {a : Addr} {xs : List V} {ds : List D} : H a = some (.tup xs) → ¬ L a → RepL K L H xs ds → Rep K L H (.ref a) (.tuple ds)
  | ktup {a : Addr} {xs : List V} {ds : List D} : KT K a xs → RepL K L H xs ds → Rep K L H (.ref a) (.tuple ds)
inductive RepL (K : PySem.W.Frag) (L : Addr → Prop) (H : Hp) : List V → List D → Prop
  | nil : RepL K L H [] []
  | cons {v : V} {vs : List V} {d : D} {ds : List D} : Rep K L H v d → RepL K L H vs ds → RepL K L H (v :: vs) (d :: ds)
end
/-- what stands apart from L in H stands apart from L' in H' -/
def Later (L : Addr → Prop) (H : Hp) (L' : Addr → Prop) (H' : Hp) : Prop := ∀ a o, H a = some o → ¬ L a → H' a = some o ∧ ¬ L' a
theorem Later.refl {L : Addr → Prop} {H : Hp} : Later L H L H := fun _ _ h n => ⟨h, n⟩
theorem Later.trans {L L1 L2 : Addr → Prop} {H H1 H2 : Hp} (a : Later L H L1 H1) (b : Later L1 H1 L2 H2) : Later L H L2 H2 := fun c o h n => b c o (a c o h n).1 (a c o h n).2
section
variable {K : PySem.W.Frag} {L L' : Addr → Prop} {H H' : Hp}
mutual
theorem Rep.mono (m : Later L H L' H') : ∀ {v : V} {d : D}, Rep K L H v d → Rep K L' H' v d
  | _, _, .non => .non
  | _, _, .bl b => .bl b
  | _, _, .int i => .int i
  | _, _, .str x h => .str x h
  | _, _, .lst h n r => .lst (m _ _ h n).1 (m _ _ h n).2 (RepL.mono m r)
  | _, _, .tup h n r => .tup (m _ _ h n).1 (m _ _ h n).2 (RepL.mono m r)
  | _, _, .ktup h r => .ktup h (RepL.mono m r)
theorem RepL.mono (m : Later L H L' H') : ∀ {v : List V} {d : List D}, RepL K L H v d → RepL K L' H' v d
  | _, _, .nil => .nil
  | _, _, .cons r t => .cons (Rep.mono m r) (RepL.mono m t)
end
mutual
theorem Rep.dp : ∀ {v : V} {d : D}, Rep K L H v d → Dp K H v d
  | _, _, .non => .non
  | _, _, .bl b => .bl b
  | _, _, .int i => .int i
  | _, _, .str x _ => .str x
  | _, _, .lst h _ r => .lst (SqL.of h) (RepL.dp r)
  | _, _, .tup h _ r => .tup (SqT.of h) (RepL.dp r)
  | _, _, .ktup h r => .tup (.inr h) (RepL.dp r)
theorem RepL.dp : ∀ {v : List V} {d : List D}, RepL K L H v d → DpAll K H v d
  | _, _, .nil => .nil
  | _, _, .cons r t => .cons (Rep.dp r) (RepL.dp t)
end
mutual
theorem Rep.lay : ∀ {v : V} {d : D}, Rep K L H v d → d.canLay0 = true
  | _, _, .non => rfl
  | _, _, .bl b => rfl
  | _, _, .int i => rfl
  | _, _, .str x h => h
  | _, _, .lst h _ r => RepL.lay r
  | _, _, .tup h _ r => RepL.lay r
  | _, _, .ktup h r => RepL.lay r
theorem RepL.lay : ∀ {v : List V} {d : List D}, RepL K L H v d → PyData.canLayAll0 d = true
  | _, _, .nil => rfl
  | _, _, .cons r t => by
    show (_ && _) = true
    rw [Rep.lay r, RepL.lay t]
    all_goals rfl
end
theorem RepL.length : ∀ {v : List V} {d : List D}, RepL K L H v d → v.length = d.length
  | _, _, .nil => rfl
  | _, _, .cons _ t => congrArg (· + 1) (RepL.length t)
theorem RepL.get : ∀ {v : List V} {d : List D} {i : Nat} {x : D}, RepL K L H v d → d[i]? = some x → ∃ u, v[i]? = some u ∧ Rep K L H u x
  | _, _, i, x, .nil, e => by simp at e
  | _, _, 0, x, .cons r _, e => by simp at e; subst e; exact ⟨_, rfl, r⟩
  | _, _, i + 1, x, .cons _ t, e => by
    obtain ⟨u, h1, h2⟩ := RepL.get (i := i) (x := x) t (by simpa using e)
    exact ⟨u, by simpa using h1, h2⟩
theorem RepL.append : ∀ {v v' : List V} {d d' : List D}, RepL K L H v d → RepL K L H v' d' → RepL K L H (v ++ v') (d ++ d')
  | _, _, _, _, .nil, s => s
  | _, _, _, _, .cons r t, s => .cons r (RepL.append t s)
theorem RepL.take : ∀ {v : List V} {d : List D} (n : Nat), RepL K L H v d → RepL K L H (v.take n) (d.take n)
  | _, _, 0, _ => .nil
  | _, _, _ + 1, .nil => .nil
  | _, _, n + 1, .cons r t => .cons r (RepL.take n t)
theorem RepL.drop : ∀ {v : List V} {d : List D} (n : Nat), RepL K L H v d → RepL K L H (v.drop n) (d.drop n)
  | _, _, 0, r => r
  | _, _, _ + 1, .nil => .nil
  | _, _, n + 1, .cons _ t => RepL.drop n t
theorem RepL.set {v : V} {d : D} (r : Rep K L H v d) : ∀ {vs : List V} {ds : List D} (i : Nat), RepL K L H vs ds → RepL K L H (vs.set i v) (ds.set i d)
  | _, _, _, .nil => .nil
  | _, _, 0, .cons _ t => .cons r t
  | _, _, i + 1, .cons q t => .cons q (RepL.set r i t)
theorem RepL.eraseIdx : ∀ {vs : List V} {ds : List D} (i : Nat), RepL K L H vs ds → RepL K L H (vs.eraseIdx i) (ds.eraseIdx i)
  | _, _, _, .nil => .nil
  | _, _, 0, .cons _ t => t
  | _, _, i + 1, .cons q t => .cons q (RepL.eraseIdx i t)
theorem RepL.reverse : ∀ {vs : List V} {ds : List D}, RepL K L H vs ds → RepL K L H vs.reverse ds.reverse
  | _, _, .nil => .nil
  | _, _, .cons r t => by rw [List.reverse_cons, List.reverse_cons]; exact (RepL.reverse t).append (.cons r .nil)
theorem RepL.rep {vs : List V} {ds : List D} (r : RepL K L H vs ds) : ∀ n : Nat, RepL K L H (List.replicate n vs).flatten (List.replicate n ds).flatten
  | 0 => .nil
  | n + 1 => by rw [List.replicate_succ, List.replicate_succ, List.flatten_cons, List.flatten_cons]; exact r.append (RepL.rep r n)
theorem RepL.one {v : V} {ds : List D} (r : RepL K L H [v] ds) : ∃ d, ds = [d] ∧ Rep K L H v d := by
  cases r with | cons r t => cases t; exact ⟨_, rfl, r⟩
end
/-- what is read only: the script; a dict with texts as keys and flat values -/
inductive Fz where
  | nums (ns : List Int) | dct (kvs : List (Str × D))
inductive Sl where
  | d (x : D) | own (xs : List D) | scr (z : Fz)
abbrev Env := List (Option Sl)
def OwnA (sg : St) (r : Env) (a : Addr) : Prop := ∃ (i : Nat) (xs : List D), r[i]? = some (some (Sl.own xs)) ∧ sg[i]? = some (some (V.ref a))
def Lv (P : Addr → Prop) (sg : St) (r : Env) (a : Addr) : Prop := P a ∨ OwnA sg r a
/-- a list of the written part -/
def KL (K : PySem.W.Frag) (a : Addr) (xs : List V) : Prop := ∃ (o : Obj) (its : Array Value) (n : Nat), K.lookup a = some o ∧ o.cls = .type "list" ∧ o.dict = none ∧ o.data = .seq its n ∧ its.size ≤ sizeLine ∧ Vals xs its.toList
/-- where the script lies -/
def ScrAt (K : PySem.W.Frag) (P : Addr → Prop) (H : Hp) (a : Addr) (ns : List Int) : Prop := (∃ o, H a = some (.frz o (.lst (ns.map V.int))) ∧ ¬ P a) ∨ KL K a (ns.map V.int)
theorem ScrAt.map {K : PySem.W.Frag} {P P' : Addr → Prop} {H H' : Hp} {a : Addr} {ns : List Int} (h : ScrAt K P H a ns) (f : ∀ o, H a = some (.frz o (.lst (ns.map V.int))) → ¬ P a → H' a = some (.frz o (.lst (ns.map V.int))) ∧ ¬ P' a) : ScrAt K P' H' a ns :=
  h.elim (fun ⟨o, h1, h2⟩ => .inl ⟨o, (f o h1 h2).1, (f o h1 h2).2⟩) .inr
theorem ScrAt.sq {K : PySem.W.Frag} {P : Addr → Prop} {H : Hp} {a : Addr} {ns : List Int} (h : ScrAt K P H a ns) : SqL K H a (ns.map V.int) := h.elim (fun ⟨o, h1, _⟩ => .inl (.inr ⟨o, h1⟩)) .inr
/-- how such a thing stands in the heap -/
inductive Fo where
  | frz (o : Obj) (u : HO) | dk (kvs : List (Key × V))
def Fo.ho : Fo → HO
  | .frz o u => .frz o u
  | .dk kvs => .dK kvs
theorem Fo.no {o : Fo} {xs : List V} (h : some o.ho = some (HO.lst xs)) : False := by cases o <;> cases h
theorem Fo.no' {o : Fo} {xs : List V} (h : some (HO.lst xs) = some o.ho) : False := by cases o <;> cases h
def flatV : D → Option V
  | .none => some .non
  | .bool b => some (.bl b)
  | .int i => some (.int i)
  | .str x => if PyData.strOk x then some (.str x) else none
  | _ => none
def KvR (kvs : List (Str × D)) (vs : List (Key × V)) : Prop := kvs.map (fun p => (Sum.inr p.1, flatV p.2)) = vs.map fun q => (q.1, some q.2)
def FzAt (K : PySem.W.Frag) (P : Addr → Prop) (H : Hp) (a : Addr) : Fz → Prop
  | .nums ns => ScrAt K P H a ns
  | .dct kvs => ∃ vs, H a = some (.dK vs) ∧ KvR kvs vs ∧ ¬ P a
theorem FzAt.map {K : PySem.W.Frag} {P P' : Addr → Prop} {H H' : Hp} {a : Addr} {z : Fz} (h : FzAt K P H a z) (f : ∀ o : Fo, H a = some o.ho → ¬ P a → H' a = some o.ho ∧ ¬ P' a) : FzAt K P' H' a z := by
  cases z with
  | nums ns => exact ScrAt.map h fun o h1 h2 => f (.frz o _) h1 h2
  | dct kvs =>
    obtain ⟨vs, h1, h2, h3⟩ := h
    exact ⟨vs, (f (.dk vs) h1 h3).1, h2, (f (.dk vs) h1 h3).2⟩
structure Sim (K : PySem.W.Frag) (P : Addr → Prop) (sg : St) (H : Hp) (r : Env) : Prop where
  len : sg.length = r.length
  dat : ∀ (i : Nat) x, r[i]? = some (some (.d x)) → ∃ v, sg[i]? = some (some v) ∧ Rep K (Lv P sg r) H v x
  own : ∀ (i : Nat) xs, r[i]? = some (some (.own xs)) → ∃ a vs, sg[i]? = some (some (.ref a)) ∧ H a = some (.lst vs) ∧ RepL K (Lv P sg r) H vs xs
  scr : ∀ (i : Nat) ns, r[i]? = some (some (.scr ns)) → ∃ a, sg[i]? = some (some (.ref a)) ∧ FzAt K P H a ns
  prot : ∀ a, P a → ∃ o, H a = some o
  sep : ∀ (i j : Nat) xs ys a, r[i]? = some (some (.own xs)) → r[j]? = some (some (.own ys)) → sg[i]? = some (some (.ref a)) → sg[j]? = some (some (.ref a)) → i = j
  nP : ∀ a, OwnA sg r a → ¬ P a
/-- behind an expression -/
structure Ext (K : PySem.W.Frag) (P : Addr → Prop) (sg : St) (r : Env) (H : Hp) (r' : Env) (H' : Hp) : Prop where
  sim : Sim K P sg H' r'
  shape : ∀ i : Nat, (∃ xs, r'[i]? = some (some (Sl.own xs))) ↔ ∃ xs, r[i]? = some (some (Sl.own xs))
  keep : ∀ a o, H a = some o → ¬ OwnA sg r a → H' a = some o
section
variable {K : PySem.W.Frag} {P : Addr → Prop} {sg : St} {r r' r1 r2 : Env} {H H' H1 H2 : Hp}
theorem Sim.lv (S : Sim K P sg H r) : ∀ a, Lv P sg r a → ∃ o, H a = some o := fun a h => by
  rcases h with h | ⟨i, xs, h1, h2⟩
  · exact S.prot a h
  · obtain ⟨b, vs, e, q, _⟩ := S.own i xs h1
    rw [h2] at e; cases e; exact ⟨_, q⟩
theorem Ext.own (E : Ext K P sg r H r' H') (a : Addr) : OwnA sg r' a ↔ OwnA sg r a := by
  constructor
  · rintro ⟨i, xs, h1, h2⟩
    obtain ⟨ys, h⟩ := (E.shape i).mp ⟨xs, h1⟩
    exact ⟨i, ys, h, h2⟩
  · rintro ⟨i, xs, h1, h2⟩
    obtain ⟨ys, h⟩ := (E.shape i).mpr ⟨xs, h1⟩
    exact ⟨i, ys, h, h2⟩
theorem Ext.refl (S : Sim K P sg H r) : Ext K P sg r H r H := ⟨S, fun _ => Iff.rfl, fun _ _ h _ => h⟩
theorem Ext.trans (a : Ext K P sg r H r1 H1) (b : Ext K P sg r1 H1 r2 H2) : Ext K P sg r H r2 H2 :=
  ⟨b.sim, fun c => (b.shape c).trans (a.shape c), fun c o h n => b.keep c o (a.keep c o h n) fun z => n ((a.own c).mp z)⟩
theorem Ext.later (E : Ext K P sg r H r' H') : Later (Lv P sg r) H (Lv P sg r') H' := fun a o h n =>
  ⟨E.keep a o h fun z => n (.inr z), fun z => n (z.elim .inl fun z => .inr ((E.own a).mp z))⟩
theorem Ext.rep (E : Ext K P sg r H r' H') {v : V} {d : D} (h : Rep K (Lv P sg r) H v d) : Rep K (Lv P sg r') H' v d := h.mono E.later
theorem Ext.repL (E : Ext K P sg r H r' H') {v : List V} {d : List D} (h : RepL K (Lv P sg r) H v d) : RepL K (Lv P sg r') H' v d := h.mono E.later
/-- the heap has grown -/
theorem Sim.grow (S : Sim K P sg H r) (g : ∀ a o, H a = some o → H' a = some o) : Ext K P sg r H r H' := by
  have la : Later (Lv P sg r) H (Lv P sg r) H' := fun a o h n => ⟨g a o h, n⟩
  refine ⟨⟨S.len, fun i x e => ?_, fun i xs e => ?_, fun i ns e => ?_, fun a h => ?_, S.sep, S.nP⟩, fun _ => Iff.rfl, fun a o h _ => g a o h⟩
  · obtain ⟨v, h1, h2⟩ := S.dat i x e; exact ⟨v, h1, h2.mono la⟩
  · obtain ⟨a, vs, h1, h2, h3⟩ := S.own i xs e; exact ⟨a, vs, h1, g _ _ h2, h3.mono la⟩
  · obtain ⟨a, h1, h2⟩ := S.scr i ns e; exact ⟨a, h1, h2.map fun o h2 h3 => ⟨g _ _ h2, h3⟩⟩
  · obtain ⟨o, h⟩ := S.prot a h; exact ⟨o, g _ _ h⟩
theorem upd_grow {p : Addr} {o : HO} (h : H p = none) : ∀ a u, H a = some u → upd H p o a = some u := fun a u e => by
  rw [upd_ne (ne_of_none e h)]; exact e
theorem Sim.new (S : Sim K P sg H r) {p : Addr} (o : HO) (h : H p = none) : Ext K P sg r H r (upd H p o) := S.grow (upd_grow h)
theorem Sim.fresh (S : Sim K P sg H r) {p : Addr} (h : H p = none) : ¬ Lv P sg r p := fun z => by
  obtain ⟨o, e⟩ := S.lv p z
  rw [h] at e; cases e
theorem Sim.newTup (S : Sim K P sg H r) {p : Addr} {vs : List V} {ds : List D} (h : H p = none) (q : RepL K (Lv P sg r) H vs ds) : Rep K (Lv P sg r) (upd H p (.tup vs)) (.ref p) (.tuple ds) :=
  .tup upd_same (S.fresh h) ((S.new (.tup vs) h).repL q)
theorem Sim.newLst (S : Sim K P sg H r) {p : Addr} {vs : List V} {ds : List D} (h : H p = none) (q : RepL K (Lv P sg r) H vs ds) : Rep K (Lv P sg r) (upd H p (.lst vs)) (.ref p) (.list ds) :=
  .lst upd_same (S.fresh h) ((S.new (.lst vs) h).repL q)
end
end DL
namespace DL
open PySem PySem.Spec L2
abbrev SE := Env → Option (D × Env)
def OkE (X : Cx) (e : Expr) (m : SE) : Prop := ∀ (P : Addr → Prop) (sg : St) (H : Hp) (r : Env) (Q : VK) (d : D) (r' : Env), Sim X.K P sg H r → m r = some (d, r') →
  (∀ v H', Ext X.K P sg r H r' H' → Rep X.K (Lv P sg r') H' v d → Q v H') → UE X e sg H Q
/-- a list that is read: one's own, or data -/
inductive Bor (s : Bool) (K : PySem.W.Frag) (L : Addr → Prop) (H : Hp) : V → D → Prop
  | rep {v : V} {d : D} : Rep K L H v d → Bor s K L H v d
  | own {a : Addr} {xs : List V} {ds : List D} : H a = some (.lst xs) → RepL K L H xs ds → Bor s K L H (.ref a) (.list ds)
  | scr {a : Addr} {ns : List Int} : s = true → ScrAt K (fun _ => False) H a ns → Bor s K L H (.ref a) (.list (ns.map PyData.int))
abbrev With (P : Addr → Prop) (p : Addr) : Addr → Prop := fun a => P a ∨ a = p
/-- a new list that nobody else holds -/
structure NewL (K : PySem.W.Frag) (P : Addr → Prop) (sg : St) (r : Env) (H : Hp) (r' : Env) (H' : Hp) (p : Addr) (vs : List V) (ds : List D) : Prop where
  ext : Ext K P sg r H r' H'
  sim : Sim K (With P p) sg H' r'
  new : H p = none
  here : H' p = some (.lst vs)
  rep : RepL K (Lv (With P p) sg r') H' vs ds
/-- by any reading T -/
def OkNT (K : PySem.W.Frag) (T : TE) (m : Env → Option (List D × Env)) : Prop := ∀ (P : Addr → Prop) (sg : St) (H : Hp) (r : Env) (Q : VK) (ds : List D) (r' : Env), Sim K P sg H r → m r = some (ds, r') →
  (∀ p vs H', NewL K P sg r H r' H' p vs ds → Q (.ref p) H') → T sg H Q
abbrev OkN (X : Cx) (e : Expr) (m : Env → Option (List D × Env)) : Prop := OkNT X.K (UE X e) m
def OkET (K : PySem.W.Frag) (T : TE) (m : SE) : Prop := ∀ (P : Addr → Prop) (sg : St) (H : Hp) (r : Env) (Q : VK) (d : D) (r' : Env), Sim K P sg H r → m r = some (d, r') →
  (∀ v H', Ext K P sg r H r' H' → Rep K (Lv P sg r') H' v d → Q v H') → T sg H Q
abbrev ST := Env → Option (Bool × Env)
def OkT (X : Cx) (e : Expr) (m : ST) : Prop := ∀ (P : Addr → Prop) (sg : St) (H : Hp) (r : Env) (Q : Bool → Hp → Prop) (b : Bool) (r' : Env), Sim X.K P sg H r → m r = some (b, r') →
  (∀ H', Ext X.K P sg r H r' H' → Q b H') → UT X e sg H Q
abbrev SA := Env → Option (List D × Env)
def OkA (X : Cx) (es : List Expr) (m : SA) : Prop := ∀ (P : Addr → Prop) (sg : St) (H : Hp) (r : Env) (Q : List V → Hp → Prop) (ds : List D) (r' : Env), Sim X.K P sg H r → m r = some (ds, r') →
  (∀ vs H', Ext X.K P sg r H r' H' → RepL X.K (Lv P sg r') H' vs ds → Q vs H') → UA X es sg H Q
section
variable {s : Bool} {K : PySem.W.Frag} {L L' : Addr → Prop} {H H' : Hp} {v : V} {d : D}
theorem repL_ints : ∀ ns : List Int, RepL K L H (ns.map V.int) (ns.map PyData.int)
  | [] => .nil
  | n :: r => .cons (.int n) (repL_ints r)
theorem Bor.list {ds : List D} (h : Bor s K L H v (.list ds)) : ∃ a xs, v = .ref a ∧ SqL K H a xs ∧ RepL K L H xs ds ∧ (s = false → H a = some (.lst xs)) := by
  generalize e : PyData.list ds = z at h
  cases h with
  | rep h =>
    subst e
    cases h with | lst h n r => exact ⟨_, _, rfl, SqL.of h, r, fun _ => h⟩
  | own h r => cases e; exact ⟨_, _, rfl, SqL.of h, r, fun _ => h⟩
  | scr hs h => cases e; exact ⟨_, _, rfl, h.sq, repL_ints _, fun z => by rw [hs] at z; cases z⟩
theorem Rep.tuple {ds : List D} (h : Rep K L H v (.tuple ds)) : ∃ a xs, v = .ref a ∧ SqT K H a xs ∧ RepL K L H xs ds := by
  cases h with
  | tup h n r => exact ⟨_, _, rfl, SqT.of h, r⟩
  | ktup h r => exact ⟨_, _, rfl, .inr h, r⟩
theorem Bor.tuple {ds : List D} (h : Bor s K L H v (.tuple ds)) : ∃ a xs, v = .ref a ∧ SqT K H a xs ∧ RepL K L H xs ds := by
  cases h with
  | rep h => exact h.tuple
theorem repL_dp_ints : ∀ ns : List Int, DpAll K H (ns.map V.int) (ns.map PyData.int)
  | [] => .nil
  | n :: r => .cons (.int n) (repL_dp_ints r)
theorem Bor.dp (h : Bor s K L H v d) : Dp K H v d := by
  cases h with
  | rep h => exact h.dp
  | own h r => exact .lst (SqL.of h) r.dp
  | scr _ h => exact .lst h.sq (repL_dp_ints _)
theorem canLay_ints : ∀ ns : List Int, PyData.canLayAll0 (ns.map PyData.int) = true
  | [] => rfl
  | n :: r => by show (_ && _) = true; rw [canLay_ints r]; rfl
theorem Bor.lay (h : Bor s K L H v d) : d.canLay0 = true := by
  cases h with
  | rep h => exact h.lay
  | own _ r => exact r.lay
  | scr => exact canLay_ints _
theorem Bor.mono (m : Later L H L' H') (g : ∀ a o, H a = some o → L a → H' a = some o) (h : Bor s K L H v d) : Bor s K L' H' v d := by
  have g' : ∀ a o, H a = some o → H' a = some o := fun a o e => by
    by_cases z : L a
    · exact g a o e z
    · exact (m a o e z).1
  cases h with
  | rep h => exact .rep (h.mono m)
  | own h r => exact .own (g' _ _ h) (r.mono m)
  | scr hs h => exact .scr hs (h.map fun o h2 h3 => ⟨g' _ _ h2, h3⟩)
end
theorem Ext.none {K : PySem.W.Frag} {P : Addr → Prop} {sg : St} {r r' : Env} {H H' : Hp} (E : Ext K P sg r H r' H') {p : Addr} (h : H' p = Option.none) : H p = Option.none := by
  cases z : H p with
  | none => rfl
  | some o =>
    by_cases ow : OwnA sg r p
    · obtain ⟨o', z'⟩ := E.sim.lv p (.inr ((E.own p).mpr ow))
      rw [h] at z'; cases z'
    · have := E.keep p o z ow
      rw [h] at this; cases this
section
variable {K : PySem.W.Frag} {P : Addr → Prop} {sg sg' : St} {r r' : Env} {H H' : Hp}
/-- one more is protected -/
theorem Sim.guard (S : Sim K P sg H r) {p : Addr} (hp : H p = none) (o : HO) : Sim K (With P p) sg (upd H p o) r ∧ Later (Lv P sg r) H (Lv (With P p) sg r) (upd H p o) := by
  have la : Later (Lv P sg r) H (Lv (With P p) sg r) (upd H p o) := fun a u h n =>
    ⟨by rw [upd_ne (ne_of_none h hp)]; exact h, fun z => z.elim (fun z => z.elim (fun z => n (.inl z)) fun z => ne_of_none h hp z) fun z => n (.inr z)⟩
  refine ⟨⟨S.len, fun i x e => ?_, fun i x e => ?_, fun i x e => ?_, fun a h => ?_, S.sep, fun a ow z => ?_⟩, la⟩
  · obtain ⟨v, h1, h2⟩ := S.dat i x e
    exact ⟨v, h1, h2.mono la⟩
  · obtain ⟨a, vs, h1, h2, h3⟩ := S.own i x e
    exact ⟨a, vs, h1, by rw [upd_ne (ne_of_none h2 hp)]; exact h2, h3.mono la⟩
  · obtain ⟨a, h1, h2⟩ := S.scr i x e
    exact ⟨a, h1, h2.map fun u h2 h3 => ⟨by rw [upd_ne (ne_of_none h2 hp)]; exact h2, fun z => z.elim h3 (ne_of_none h2 hp)⟩⟩
  · rcases h with h | h
    · obtain ⟨u, e⟩ := S.prot a h
      exact ⟨u, by rw [upd_ne (ne_of_none e hp)]; exact e⟩
    · rw [h, upd_same]; exact ⟨_, rfl⟩
  · rcases z with z | z
    · exact S.nP a ow z
    · obtain ⟨u, e⟩ := S.lv a (.inr ow)
      exact ne_of_none e hp z
theorem Ext.newL (E : Ext K P sg r H r' H') {p : Addr} {vs : List V} {ds : List D} (hp : H' p = Option.none) (q : RepL K (Lv P sg r') H' vs ds) : NewL K P sg r H r' (upd H' p (.lst vs)) p vs ds :=
  ⟨E.trans (E.sim.new _ hp), (E.sim.guard hp _).1, E.none hp, upd_same, q.mono (E.sim.guard hp _).2⟩
end
section
variable {X : Cx} {e a b : Expr} {pos : Pos}
def listOf (m : SA) : SE := fun r => match m r with | some (ds, r') => some (.list ds, r') | none => none
theorem OkN.dat {m : SA} (h : OkN X e m) : OkE X e (listOf m) := by
  intro P sg H r Q d r' S hm hq
  unfold listOf at hm
  split at hm
  · rename_i ds r1 e1
    cases hm
    refine h P sg H r Q ds r' S e1 fun p vs H' n => hq _ _ n.ext (.lst n.here (fun z => S.fresh n.new ?_) (n.rep.mono fun a o h k => ⟨h, fun z => k (z.elim (fun z => .inl (.inl z)) .inr)⟩))
    exact z.elim .inl fun z => .inr ((n.ext.own _).mp z)
  · cases hm
theorem OkNT.dat {K : PySem.W.Frag} {T : TE} {m : SA} (h : OkNT K T m) : OkET K T (listOf m) := by
  intro P sg H r Q d r' S hm hq
  unfold listOf at hm
  split at hm
  · rename_i ds r1 e1
    cases hm
    refine h P sg H r Q ds r' S e1 fun p vs H' n => hq _ _ n.ext (.lst n.here (fun z => S.fresh n.new ?_) (n.rep.mono fun a o h k => ⟨h, fun z => k (z.elim (fun z => .inl (.inl z)) .inr)⟩))
    exact z.elim .inl fun z => .inr ((n.ext.own _).mp z)
  · cases hm
def mVar (i : Nat) : SE := fun r => match r[i]? with | some (some (.d x)) => some (x, r) | _ => none
theorem okE_var {i : Nat} {x : Str} (hN : X.N[i]? = some x) (hv : Vis X.env.scope x) (hd : (x == ("__debug__" : Str)) = false) (hcd : (x == ("__classdict__" : Str)) = false) : OkE X (.Name x pos) (mVar i) := by
  intro P sg H r Q d r' S hm hq
  unfold mVar at hm
  split at hm
  · rename_i y e1
    cases hm
    obtain ⟨v, h1, h2⟩ := S.dat i _ e1
    exact UE.of (pe_var hN hv hd hcd) ⟨v, h1, hq v H (Ext.refl S) h2⟩
  · cases hm
def j8 (d : D) : SE := fun r => some (d, r)
theorem okE_cst {d : D} {v : V} (h : PE X e (tC v)) (hr : ∀ L H, Rep X.K L H v d) : OkE X e (j8 d) := by
  intro P sg H r Q d' r' S hm hq
  cases hm
  exact UE.of h (hq v H (Ext.refl S) (hr _ _))
theorem y5 {i : Int} {j : Nat} : OkE X (.Constant (.int i) j pos) (j8 (.int i)) := okE_cst pe_int fun _ _ => .int i
theorem w4 {i : Bool} {j : Nat} : OkE X (.Constant (.bool i) j pos) (j8 (.bool i)) := okE_cst pe_bl fun _ _ => .bl i
theorem v6 {j : Nat} : OkE X (.Constant .none j pos) (j8 .none) := okE_cst pe_non fun _ _ => .non
theorem x6 {x : Str} {j : Nat} (h : PyData.strOk x = true) : OkE X (.Constant (.str x) j pos) (j8 (.str x)) := okE_cst pe_str fun _ _ => .str x h
def j7 : SA := fun r => some ([], r)
def j6 (m : SE) (n : SA) : SA := fun r => match m r with
  | some (d, r1) => match n r1 with | some (ds, r2) => some (d :: ds, r2) | none => none
  | none => none
theorem x5 : OkA X [] j7 := by
  intro P sg H r Q ds r' S hm hq
  cases hm
  exact UA.of pa_nil (hq [] H (Ext.refl S) .nil)
theorem x3 {es : List Expr} {m : SE} {n : SA} (h : OkE X e m) (hn : OkA X es n) (hs : starEach (e :: es) X.env = (false, eval e X.env) :: starEach es X.env) : OkA X (e :: es) (j6 m n) := by
  intro P sg H r Q ds r' S hm hq
  unfold j6 at hm
  split at hm
  · rename_i d r1 e1
    split at hm
    · rename_i ds' r2 e2
      cases hm
      refine UA.of (pa_cons UE.pe UA.pa hs) ?_
      refine h P sg H r _ d r1 S e1 fun v H1 E1 q1 => ?_
      refine hn P sg H1 r1 _ ds' _ E1.sim e2 fun vs H2 E2 q2 => ?_
      exact hq (v :: vs) H2 (E1.trans E2) (.cons (E2.rep q1) q2)
    · cases hm
  · cases hm
def mTup (n : SA) : SE := fun r => match n r with | some (ds, r') => if ds.length ≤ sizeLine then some (.tuple ds, r') else none | none => none
theorem x8 {es : List Expr} {n : SA} {k : Nat} (h : OkA X es n) : OkE X (.Tuple es k pos) (mTup n) := by
  intro P sg H r Q d r' S hm hq
  unfold mTup at hm
  split at hm
  · rename_i ds r1 e1
    split at hm
    · rename_i hz
      cases hm
      refine UE.of (pe_tup UA.pa) ?_
      refine h P sg H r _ ds _ S e1 fun vs H1 E1 q1 => ⟨by rw [q1.length]; exact hz, fun p hp => ?_⟩
      exact hq _ _ (E1.trans (E1.sim.new _ hp)) (E1.sim.newTup hp q1)
    · cases hm
  · cases hm
def nLst (n : SA) : SA := fun r => match n r with | some (ds, r') => if ds.length ≤ sizeLine then some (ds, r') else none | none => none
theorem v8 {es : List Expr} {n : SA} (h : OkA X es n) : OkN X (.List es pos) (nLst n) := by
  intro P sg H r Q ds r' S hm hq
  unfold nLst at hm
  split at hm
  · rename_i ds r1 e1
    split at hm
    · rename_i hz
      cases hm
      refine UE.of (pe_lst UA.pa) ?_
      refine h P sg H r _ _ _ S e1 fun vs H1 E1 q1 => ⟨by rw [q1.length]; exact hz, fun p hp => ?_⟩
      exact hq p vs _ (E1.newL hp q1)
    · cases hm
  · cases hm
end
end DL
namespace DL
open PySem PySem.Spec L2
inductive Opd where
  | ex (m : SE) | sl (i : Nat) | dc (kvs : List (Str × D))
def view (s : Bool) : Option (Option Sl) → Option D
  | some (some (.d x)) => some x
  | some (some (.own xs)) => some (.list xs)
  | some (some (.scr (.nums ns))) => if s then some (.list (ns.map PyData.int)) else none
  | _ => none
def Opd.pre : Opd → Env → Option (Option D × Env)
  | .ex m, r => match m r with | some (d, r') => some (some d, r') | none => none
  | .sl _, r => some (none, r)
  | .dc _, r => some (none, r)
def Opd.post (s : Bool) : Opd → Option D → Env → Option D
  | .ex _, x, _ => x
  | .sl i, _, r => view s r[i]?
  | .dc _, _, _ => none
def Pend (K : PySem.W.Frag) (P : Addr → Prop) (sg : St) : Opd → V → Option D → Env → Hp → Prop
  | .ex _, v, x, r, H => ∃ d, x = some d ∧ Rep K (Lv P sg r) H v d
  | .sl i, v, _, _, _ => sg[i]? = some (some v)
  | .dc kvs, v, _, r, H => ∃ a vs, v = .ref a ∧ H a = some (.dK vs) ∧ KvR kvs vs ∧ ¬ Lv P sg r a
theorem Pend.ext {K : PySem.W.Frag} {P : Addr → Prop} {sg : St} {o : Opd} {v : V} {x : Option D} {r r' : Env} {H H' : Hp} (E : Ext K P sg r H r' H') (h : Pend K P sg o v x r H) : Pend K P sg o v x r' H' := by
  cases o with
  | ex m => obtain ⟨d, e, q⟩ := h; exact ⟨d, e, E.rep q⟩
  | sl i => exact h
  | dc kvs =>
    obtain ⟨a, vs, e, h1, h2, h3⟩ := h
    exact ⟨a, vs, e, (E.later a _ h1 h3).1, h2, (E.later a _ h1 h3).2⟩
theorem Pend.done {s : Bool} {K : PySem.W.Frag} {P : Addr → Prop} {sg : St} {o : Opd} {v : V} {x : Option D} {r : Env} {H : Hp} {d : D} (S : Sim K P sg H r) (h : Pend K P sg o v x r H) (e : o.post s x r = some d) : Bor s K (Lv P sg r) H v d := by
  cases o with
  | dc kvs => cases e
  | ex m =>
    obtain ⟨d', e', q⟩ := h
    cases e'.symm.trans e
    exact .rep q
  | sl i =>
    have h : sg[i]? = some (some v) := h
    have e : view s r[i]? = some d := e
    unfold view at e
    split at e
    · rename_i y e1
      cases e
      obtain ⟨u, h1, h2⟩ := S.dat i _ e1
      rw [h] at h1; cases h1
      exact .rep h2
    · rename_i y e1
      cases e
      obtain ⟨p, vs, h1, h2, h3⟩ := S.own i _ e1
      rw [h] at h1; cases h1
      exact .own h2 h3
    · rename_i y e1
      split at e
      · rename_i hs
        cases e
        obtain ⟨p, h1, h2⟩ := S.scr i _ e1
        rw [h] at h1; cases h1
        have h2 : ScrAt _ _ _ _ _ := h2
        exact .scr hs (h2.map fun o h2 _ => ⟨h2, id⟩)
      · cases e
    · cases e
def Opd.Here : Opd → Env → Prop
  | .ex _, _ => True
  | .dc _, _ => True
  | .sl i, r => ∃ y, r[i]? = some (some y)
def OkO (X : Cx) (e : Expr) (o : Opd) : Prop := ∀ (P : Addr → Prop) (sg : St) (H : Hp) (r : Env) (Q : VK) (x : Option D) (r' : Env), Sim X.K P sg H r → o.pre r = some (x, r') →
  (∀ v H', Ext X.K P sg r H r' H' → Pend X.K P sg o v x r' H' → Q v H') → o.Here r → UE X e sg H Q
/-- the slot holds something -/
def Opd.here : Opd → Env → Bool
  | .ex _, _ => true
  | .dc _, _ => true
  | .sl i, r => match r[i]? with | some (some _) => true | _ => false
theorem here_of {o : Opd} {r : Env} (h : o.here r = true) : o.Here r := by
  cases o with
  | dc _ => trivial
  | ex m => trivial
  | sl i =>
    unfold Opd.here at h
    simp only at h
    split at h
    · rename_i y e; exact ⟨y, e⟩
    · cases h
theorem Sim.held {K : PySem.W.Frag} {P : Addr → Prop} {sg : St} {r : Env} {H : Hp} (S : Sim K P sg H r) {i : Nat} {y : Sl} (h : r[i]? = Option.some (Option.some y)) : ∃ v, sg[i]? = Option.some (Option.some v) := by
  cases y with
  | d x => obtain ⟨v, h1, _⟩ := S.dat i x h; exact ⟨v, h1⟩
  | own x => obtain ⟨a, vs, h1, _⟩ := S.own i x h; exact ⟨_, h1⟩
  | scr x => obtain ⟨a, h1, _⟩ := S.scr i x h; exact ⟨_, h1⟩
section
variable {X : Cx} {e a b : Expr} {pos : Pos}
theorem v9 {m : SE} (h : OkE X e m) : OkO X e (.ex m) := by
  intro P sg H r Q x r' S hm hq _
  unfold Opd.pre at hm
  simp only at hm
  split at hm
  · rename_i d r1 e1
    cases hm
    exact h P sg H r Q d _ S e1 fun v H' E q => hq v H' E ⟨d, rfl, q⟩
  · cases hm
theorem okO_sl {i : Nat} {x : Str} (hN : X.N[i]? = some x) (hv : Vis X.env.scope x) (hd : (x == ("__debug__" : Str)) = false) (hcd : (x == ("__classdict__" : Str)) = false) : OkO X (.Name x pos) (.sl i) := by
  intro P sg H r Q y r' S hm hq hh
  cases hm
  obtain ⟨z, hz⟩ := hh
  obtain ⟨v, h1⟩ := S.held hz
  exact UE.of (pe_var hN hv hd hcd) ⟨v, h1, hq v H (Ext.refl S) h1⟩
def OpS (s : Bool) (X : Cx) (f : Value → Value → Sem Value) (g : D → D → Option D) : Prop := ∀ (P : Addr → Prop) (sg : St) (H : Hp) (r : Env) (v u : V) (x y z : D) (Q : VK), Sim X.K P sg H r →
  Bor s X.K (Lv P sg r) H v x → Bor s X.K (Lv P sg r) H u y → g x y = some z → (∀ w H', Ext X.K P sg r H r H' → Rep X.K (Lv P sg r) H' w z → Q w H') → opB X f v u H Q
def two (s : Bool) (oa ob : Opd) (r : Env) : Option (D × D × Env) :=
  if oa.here r then match oa.pre r with
  | some (x, r1) => if ob.here r1 then match ob.pre r1 with
    | some (y, r2) => match oa.post s x r2, ob.post s y r2 with
      | some x', some y' => some (x', y', r2)
      | _, _ => none
    | none => none else none
  | none => none else none
theorem two_ok {s : Bool} {oa ob : Opd} (ha : OkO X a oa) (hb : OkO X b ob) {P : Addr → Prop} {sg : St} {H : Hp} {r r' : Env} {x y : D} {R : V → V → Hp → Prop} (S : Sim X.K P sg H r) (hm : two s oa ob r = some (x, y, r'))
    (hq : ∀ v u H', Ext X.K P sg r H r' H' → Bor s X.K (Lv P sg r') H' v x → Bor s X.K (Lv P sg r') H' u y → R v u H') : UE X a sg H fun v H1 => UE X b sg H1 fun u H2 => R v u H2 := by
  unfold two at hm
  split at hm
  · rename_i h0
    split at hm
    · rename_i x1 r1 e1
      split at hm
      · rename_i h1
        split at hm
        · rename_i y1 r2 e2
          split at hm
          · rename_i x2 y2 e3 e4
            cases hm
            refine ha P sg H r _ x1 r1 S e1 (fun v H1 E1 q1 => ?_) (here_of h0)
            refine hb P sg H1 r1 _ y1 _ E1.sim e2 (fun u H2 E2 q2 => ?_) (here_of h1)
            exact hq v u H2 (E1.trans E2) ((q1.ext E2).done E2.sim e3) (q2.done E2.sim e4)
          · cases hm
        · cases hm
      · cases hm
    · cases hm
  · cases hm
def mBin (s : Bool) (oa ob : Opd) (g : D → D → Option D) : SE := fun r => match two s oa ob r with
  | some (x, y, r') => match g x y with | some z => some (z, r') | none => none
  | none => none
theorem v7 {s : Bool} {op : Operator} {oa ob : Opd} {g : D → D → Option D} (ho : OpS s X (binaryOp op) g) (ha : OkO X a oa) (hb : OkO X b ob) : OkE X (.BinOp a op b pos) (mBin s oa ob g) := by
  intro P sg H r Q d r' S hm hq
  unfold mBin at hm
  split at hm
  · rename_i x y r1 e1
    split at hm
    · rename_i z e2
      cases hm
      refine UE.of (pe_op opB_ok UE.pe UE.pe) (two_ok ha hb S e1 fun v u H2 E bx bq => ?_)
      exact ho P sg H2 _ v u x y _ Q E.sim bx bq e2 fun w H' E' q => hq w H' (E.trans E') q
    · cases hm
  · cases hm
theorem okE_cmp {s : Bool} {op : CmpOp} {oa ob : Opd} {g : D → D → Option D} (ho : OpS s X (compareOp op) g) (ha : OkO X a oa) (hb : OkO X b ob) (hm' : behindInMarks op b = false) : OkE X (.Compare a [op] [b] pos) (mBin s oa ob g) := by
  intro P sg H r Q d r' S hm hq
  unfold mBin at hm
  split at hm
  · rename_i x y r1 e1
    split at hm
    · rename_i z e2
      cases hm
      refine UE.of (pe_cmpR opB_ok UE.pe UE.pe hm') (two_ok ha hb S e1 fun v u H2 E bx bq => ?_)
      exact ho P sg H2 _ v u x y _ Q E.sim bx bq e2 fun w H' E' q => hq w H' (E.trans E') q
    · cases hm
  · cases hm
def tBin (s : Bool) (oa ob : Opd) (g : D → D → Option D) : ST := fun r => match mBin s oa ob g r with | some (.bool b, r') => some (b, r') | _ => none
theorem j5 {s : Bool} {op : CmpOp} {oa ob : Opd} {g : D → D → Option D} (ho : OpS s X (compareOp op) g) (ha : OkO X a oa) (hb : OkO X b ob) (hm' : behindInMarks op b = false) : OkT X (.Compare a [op] [b] pos) (tBin s oa ob g) := by
  intro P sg H r Q d r' S hm hq
  unfold tBin at hm
  split at hm
  · rename_i c r1 e0
    cases hm
    unfold mBin at e0
    split at e0
    · rename_i x y r1 e1
      split at e0
      · rename_i z e2
        cases e0
        refine UT.of (pt_cmpR opB_ok UE.pe UE.pe hm') (two_ok (R := fun v u H2 => opB X (compareOp op) v u H2 fun z H' => ∃ k, z = .bl k ∧ Q k H') ha hb S e1 fun v u H2 E bx bq => ?_)
        refine ho P sg H2 _ v u x y _ _ E.sim bx bq e2 fun w H' E' q => ?_
        cases q
        exact ⟨_, rfl, hq H' (E.trans E')⟩
      · cases e0
    · cases e0
  · cases hm
end
section
variable {X : Cx}
theorem strOk_append {x y : Str} (h : PyData.strOk x = true) (h' : PyData.strOk y = true) : PyData.strOk (x ++ y) = true := by
  unfold PyData.strOk at *
  show (x.cps ++ y.cps).all _ = true
  rw [Array.all_append, h, h']; rfl
def fAdd : D → D → Option D
  | .int i, .int j => some (.int (i + j))
  | .str x, .str y => if x.length + y.length ≤ sizeLine then some (.str (x ++ y)) else none
  | .tuple xs, .tuple ys => if xs.length + ys.length ≤ sizeLine then some (.tuple (xs ++ ys)) else none
  | .list xs, .list ys => if xs.length + ys.length ≤ sizeLine then some (.list (xs ++ ys)) else none
  | _, _ => none
theorem Bor.int {s K L H v i} (h : Bor s K L H v (.int i)) : v = .int i := by
  cases h with | rep h => cases h; rfl
theorem Bor.str {s K L H v x} (h : Bor s K L H v (.str x)) : v = .str x ∧ PyData.strOk x = true := by
  cases h with | rep h => cases h with | str x h => exact ⟨rfl, h⟩
theorem Bor.bool {s K L H v b} (h : Bor s K L H v (.bool b)) : v = .bl b := by
  cases h with | rep h => cases h; rfl
theorem Bor.none {s K L H v} (h : Bor s K L H v .none) : v = .non := by
  cases h with | rep h => cases h; rfl
theorem RepL.ne {K L H} {xs : List V} {ds : List D} (h : RepL K L H xs ds) : xs = [] ↔ ds = [] := by
  cases h with
  | nil => simp
  | cons r t => simp
theorem opS_add : OpS false X (binaryOp .Add) fAdd := by
  intro P sg H r v u x y z Q S hx hy hz hq
  unfold fAdd at hz
  split at hz
  · cases hz
    exact ⟨_, op_add, _, _, hx.int, hy.int, hq _ H (Ext.refl S) (.int _)⟩
  · split at hz
    · rename_i hl
      cases hz
      exact ⟨_, op_add_str, _, _, hx.str.1, hy.str.1, hl, hq _ H (Ext.refl S) (.str _ (strOk_append hx.str.2 hy.str.2))⟩
    · cases hz
  · rename_i xs ys
    split at hz
    · rename_i hl
      cases hz
      obtain ⟨p, vs, rfl, h1, r1⟩ := hx.tuple
      obtain ⟨q, us, rfl, h2, r2⟩ := hy.tuple
      refine ⟨_, op_catA, p, q, vs, us, rfl, rfl, h1, h2, by rw [r1.length, r2.length]; exact hl, fun e => ?_, fun n e => ?_, fun _ _ l hl' => ?_⟩
      · have e' : xs = [] := r1.ne.mp e
        subst e'
        refine hq _ H (Ext.refl S) ?_
        cases hy with | rep hy => exact hy
      · have e' : ys = [] := r2.ne.mp e
        subst e'
        refine hq _ H (Ext.refl S) ?_
        rw [List.append_nil]
        cases hx with | rep hx => exact hx
      · exact hq _ _ (S.new _ hl') (S.newTup hl' (r1.append r2))
    · cases hz
  · split at hz
    · rename_i hl
      cases hz
      obtain ⟨p, vs, rfl, _, r1, h1⟩ := hx.list
      obtain ⟨q, us, rfl, _, r2, h2⟩ := hy.list
      exact ⟨_, op_cat, p, q, vs, us, rfl, rfl, h1 rfl, h2 rfl, by rw [r1.length, r2.length]; exact hl, fun l hl' => hq _ _ (S.new _ hl') (S.newLst hl' (r1.append r2))⟩
    · cases hz
  · cases hz
def fSub : D → D → Option D
  | .int i, .int j => some (.int (i - j))
  | _, _ => none
theorem opS_sub : OpS false X (binaryOp .Sub) fSub := by
  intro P sg H r v u x y z Q S hx hy hz hq
  unfold fSub at hz
  split at hz
  · cases hz
    exact ⟨_, op_sub, _, _, hx.int, hy.int, hq _ H (Ext.refl S) (.int _)⟩
  · cases hz
def mulOk (i j : Int) : Bool := (decide (-(2 ^ 64) < i) && decide (i < 2 ^ 64)) || (decide (-(2 ^ 64) < j) && decide (j < 2 ^ 64))
def fMul : D → D → Option D
  | .int i, .int j => if mulOk i j then some (.int (i * j)) else none
  | .list xs, .int k => if decide (0 ≤ k) && decide (k < 2 ^ 63) && decide (xs.length * k.toNat ≤ sizeLine) then some (.list (List.replicate k.toNat xs).flatten) else none
  | _, _ => none
theorem opS_mul : OpS false X (binaryOp .Mult) fMul := by
  intro P sg H r v u x y z Q S hx hy hz hq
  unfold fMul at hz
  split at hz
  · split at hz
    · rename_i hc
      cases hz
      refine ⟨_, op_mul, _, _, hx.int, hy.int, ?_, hq _ H (Ext.refl S) (.int _)⟩
      unfold mulOk at hc
      simpa [CMul] using hc
    · cases hz
  · split at hz
    · rename_i hc
      cases hz
      obtain ⟨p, vs, rfl, _, r1, h1⟩ := hx.list
      simp only [Bool.and_eq_true, decide_eq_true_eq] at hc
      refine ⟨_, op_rep, p, _, vs, rfl, hy.int, h1 rfl, by omega, hc.1.2, by rw [r1.length]; exact hc.2, fun l hl' => hq _ _ (S.new _ hl') (S.newLst hl' (r1.rep _))⟩
    · cases hz
  · cases hz
def fMod : D → D → Option D
  | .int i, .int j => if 0 < j then some (.int (i % j)) else none
  | _, _ => none
theorem opS_mod : OpS false X (binaryOp .Mod) fMod := by
  intro P sg H r v u x y z Q S hx hy hz hq
  unfold fMod at hz
  split at hz
  · split at hz
    · rename_i hc
      cases hz
      exact ⟨_, op_mod, _, _, hx.int, hy.int, hc, hq _ H (Ext.refl S) (.int _)⟩
    · cases hz
  · cases hz
def fFdiv : D → D → Option D
  | .int i, .int j => if 0 < j ∧ j < 1073741824 then some (.int (i / j)) else none
  | _, _ => none
theorem opS_fdiv : OpS false X (binaryOp .FloorDiv) fFdiv := by
  intro P sg H r v u x y z Q S hx hy hz hq
  unfold fFdiv at hz
  split at hz
  · split at hz
    · rename_i hc
      cases hz
      exact ⟨_, op_fdiv, _, _, hx.int, hy.int, hc, hq _ H (Ext.refl S) (.int _)⟩
    · cases hz
  · cases hz
def fPow : D → D → Option D
  | .int i, .int j => if 0 ≤ j ∧ j ≤ 1000 ∧ i.natAbs < 2 ^ 64 then some (.int (i ^ j.toNat)) else none
  | _, _ => none
theorem opS_pow : OpS false X (binaryOp .Pow) fPow := by
  intro P sg H r v u x y z Q S hx hy hz hq
  unfold fPow at hz
  split at hz
  · split at hz
    · rename_i hc
      cases hz
      exact ⟨_, op_pow, _, _, hx.int, hy.int, ⟨hc.1, by omega, hc.2.2⟩, hq _ H (Ext.refl S) (.int _)⟩
    · cases hz
  · cases hz
def flatD (d : D) : Bool := decide (d.depth ≤ 60)
def fEq (x y : D) : Option D := if flatD x || flatD y then some (.bool (PyData.eqv x y)) else none
def fNe (x y : D) : Option D := if flatD x || flatD y then some (.bool (!PyData.eqv x y)) else none
theorem flat_room {x y : D} {n : Nat} (h : (flatD x || flatD y) = true) (hu : n + 64 < cLine) : n + min x.depth y.depth < cLine := by
  unfold flatD at h
  simp only [Bool.or_eq_true, decide_eq_true_eq] at h
  omega
theorem opS_eq (hu : X.A.units + 64 < cLine) : OpS true X (compareOp .Eq) fEq := by
  intro P sg H r v u x y z Q S hx hy hz hq
  unfold fEq at hz
  split at hz
  · rename_i hc
    cases hz
    refine ⟨fun a b H' Q' => a = v ∧ b = u ∧ H' = H ∧ Q' = Q, ?_, rfl, rfl, rfl, rfl⟩
    rintro pins s sg' H' a b va ub Q' I ra rb ⟨rfl, rfl, rfl, rfl⟩
    obtain ⟨as, r1⟩ := Dp.reads I x _ va hx.dp ra
    obtain ⟨bs, r2⟩ := Dp.reads I y _ ub hy.dp rb
    exact SeqAt.compareEq_reads r1 r2 hx.lay hy.lay (flat_room hc hu) ⟨.bl _, _, I, rfl, hq _ _ (Ext.refl S) (.bl _)⟩
  · cases hz
theorem opS_ne (hu : X.A.units + 64 < cLine) : OpS true X (compareOp .NotEq) fNe := by
  intro P sg H r v u x y z Q S hx hy hz hq
  unfold fNe at hz
  split at hz
  · rename_i hc
    cases hz
    refine ⟨fun a b H' Q' => a = v ∧ b = u ∧ H' = H ∧ Q' = Q, ?_, rfl, rfl, rfl, rfl⟩
    rintro pins s sg' H' a b va ub Q' I ra rb ⟨rfl, rfl, rfl, rfl⟩
    obtain ⟨as, r1⟩ := Dp.reads I x _ va hx.dp ra
    obtain ⟨bs, r2⟩ := Dp.reads I y _ ub hy.dp rb
    exact SeqAt.compareNe_reads r1 r2 hx.lay hy.lay (flat_room hc hu) ⟨.bl _, _, I, rfl, hq _ _ (Ext.refl S) (.bl _)⟩
  · cases hz
def fLt : D → D → Option D
  | .int i, .int j => some (.bool (decide (i < j)))
  | .str x, .str y => some (.bool (decide (x.cps.toList < y.cps.toList)))
  | _, _ => none
theorem opS_lt : OpS true X (compareOp .Lt) fLt := by
  intro P sg H r v u x y z Q S hx hy hz hq
  unfold fLt at hz
  split at hz
  · cases hz
    exact ⟨_, op_lt, _, _, hx.int, hy.int, hq _ H (Ext.refl S) (.bl _)⟩
  · cases hz
    exact ⟨_, op_lt_str, _, _, hx.str.1, hy.str.1, hq _ H (Ext.refl S) (.bl _)⟩
  · cases hz
def fLe : D → D → Option D
  | .int i, .int j => some (.bool (decide (i ≤ j)))
  | _, _ => none
def fGt : D → D → Option D
  | .int i, .int j => some (.bool (decide (j < i)))
  | _, _ => none
theorem opS_gt : OpS true X (compareOp .Gt) fGt := by
  intro P sg H r v u x y z Q S hx hy hz hq
  unfold fGt at hz
  split at hz
  · cases hz
    exact ⟨_, op_gt, _, _, hx.int, hy.int, hq _ H (Ext.refl S) (.bl _)⟩
  · cases hz
def fGe : D → D → Option D
  | .int i, .int j => some (.bool (decide (j ≤ i)))
  | _, _ => none
theorem opS_ge : OpS true X (compareOp .GtE) fGe := by
  intro P sg H r v u x y z Q S hx hy hz hq
  unfold fGe at hz
  split at hz
  · cases hz
    exact ⟨_, op_ge, _, _, hx.int, hy.int, hq _ H (Ext.refl S) (.bl _)⟩
  · cases hz
def isNone : D → Bool
  | .none => true
  | _ => false
theorem Bor.non_iff {s K L H v d} (h : Bor s K L H v d) : decide (v = .non) = isNone d := by
  cases h with
  | rep h => cases h <;> rfl
  | own => rfl
  | scr => rfl
def fIs (x y : D) : Option D := match y with
  | .none => some (.bool (isNone x))
  | .bool b => match x with | .bool a => some (.bool (decide (a = b))) | _ => none
  | _ => none
theorem opS_is : OpS true X (compareOp .Is) fIs := by
  intro P sg H r v u x y z Q S hx hy hz hq
  unfold fIs at hz
  split at hz
  · cases hz
    refine ⟨_, op_isN, hy.none, ?_⟩
    rw [hx.non_iff]
    exact hq _ H (Ext.refl S) (.bl _)
  · split at hz
    · cases hz
      exact ⟨_, op_isBl, _, _, hx.bool, hy.bool, hq _ H (Ext.refl S) (.bl _)⟩
    · cases hz
  · cases hz
def fIsNot (x y : D) : Option D := match y with
  | .none => some (.bool (!isNone x))
  | .bool b => match x with | .bool a => some (.bool (!decide (a = b))) | _ => none
  | _ => none
def inS (w : List Nat) (z : Str) : Option Bool := match w with | [c] => some (decide (c ∈ z.cps.toList)) | _ => none
theorem inS_of {w z : Str} {b : Bool} (h : inS w.cps.toList z = some b) : ∃ c, w = ⟨#[c]⟩ ∧ b = decide (c ∈ z.cps.toList) := by
  unfold inS at h
  split at h
  · rename_i c e
    cases h
    obtain ⟨⟨l⟩⟩ := w
    have e : l = [c] := e
    subst e
    exact ⟨c, rfl, rfl⟩
  · cases h
def inD (x : D) : D → Option Bool
  | .list ds => if flatD x || flatD (.list ds) then some (ds.any fun y => PyData.eqv y x) else none
  | .tuple ds => if flatD x || flatD (.tuple ds) then some (ds.any fun y => PyData.eqv y x) else none
  | .str z => match x with | .str w => inS w.cps.toList z | _ => none
  | _ => none
def fIn (x y : D) : Option D := match inD x y with | some b => some (.bool b) | none => none
def fNotIn (x y : D) : Option D := match inD x y with | some b => some (.bool (!b)) | none => none
theorem in_room {x : D} {xs : List D} {n : Nat} (h : (flatD x || flatD (.list xs)) = true) (hu : n + 65 < cLine) : n + 1 + min (PyData.depthAll xs) x.depth < cLine := by
  have h' : (decide (x.depth ≤ 60) || decide (PyData.depthAll xs + 1 ≤ 60)) = true := h
  simp only [Bool.or_eq_true, decide_eq_true_eq] at h'
  omega
theorem opS_in (hu : X.A.units + 65 < cLine) : OpS true X (compareOp .In) fIn := by
  intro P sg H r v u x y z Q S hx hy hz hq
  unfold fIn at hz
  split at hz
  · rename_i b e
    cases hz
    unfold inD at e
    split at e
    · split at e
      · rename_i hc
        cases e
        refine ⟨fun a b H' Q' => a = v ∧ b = u ∧ H' = H ∧ Q' = Q, ?_, rfl, rfl, rfl, rfl⟩
        rintro pins s sg' H' a b va ub Q' I ra rb ⟨rfl, rfl, rfl, rfl⟩
        obtain ⟨as, r1⟩ := Dp.reads I x _ va hx.dp ra
        obtain ⟨bs, r2⟩ := Dp.reads I _ _ ub hy.dp rb
        exact SeqAt.in_list_reads r2 r1 hy.lay hx.lay (in_room hc hu) ⟨.bl _, _, I, rfl, hq _ _ (Ext.refl S) (.bl _)⟩
      · cases e
    · split at e
      · rename_i hc
        cases e
        refine ⟨fun a b H' Q' => a = v ∧ b = u ∧ H' = H ∧ Q' = Q, ?_, rfl, rfl, rfl, rfl⟩
        rintro pins s sg' H' a b va ub Q' I ra rb ⟨rfl, rfl, rfl, rfl⟩
        obtain ⟨as, r1⟩ := Dp.reads I x _ va hx.dp ra
        obtain ⟨bs, r2⟩ := Dp.reads I _ _ ub hy.dp rb
        exact SeqAt.in_tuple_reads r2 r1 hy.lay hx.lay (in_room hc hu) ⟨.bl _, _, I, rfl, hq _ _ (Ext.refl S) (.bl _)⟩
      · cases e
    · split at e
      · obtain ⟨c, rfl, rfl⟩ := inS_of e
        exact ⟨_, op_in_sign, _, _, hx.str.1, hy.str.1, hq _ _ (Ext.refl S) (.bl _)⟩
      · cases e
    · cases e
  · cases hz
theorem opS_notIn (hu : X.A.units + 65 < cLine) : OpS true X (compareOp .NotIn) fNotIn := by
  intro P sg H r v u x y z Q S hx hy hz hq
  unfold fNotIn at hz
  split at hz
  · rename_i b e
    cases hz
    unfold inD at e
    split at e
    · split at e
      · rename_i hc
        cases e
        refine ⟨fun a b H' Q' => a = v ∧ b = u ∧ H' = H ∧ Q' = Q, ?_, rfl, rfl, rfl, rfl⟩
        rintro pins s sg' H' a b va ub Q' I ra rb ⟨rfl, rfl, rfl, rfl⟩
        obtain ⟨as, r1⟩ := Dp.reads I x _ va hx.dp ra
        obtain ⟨bs, r2⟩ := Dp.reads I _ _ ub hy.dp rb
        exact SeqAt.notIn_list_reads r2 r1 hy.lay hx.lay (in_room hc hu) ⟨.bl _, _, I, rfl, hq _ _ (Ext.refl S) (.bl _)⟩
      · cases e
    · split at e
      · rename_i hc
        cases e
        refine ⟨fun a b H' Q' => a = v ∧ b = u ∧ H' = H ∧ Q' = Q, ?_, rfl, rfl, rfl, rfl⟩
        rintro pins s sg' H' a b va ub Q' I ra rb ⟨rfl, rfl, rfl, rfl⟩
        obtain ⟨as, r1⟩ := Dp.reads I x _ va hx.dp ra
        obtain ⟨bs, r2⟩ := Dp.reads I _ _ ub hy.dp rb
        exact SeqAt.notIn_tuple_reads r2 r1 hy.lay hx.lay (in_room hc hu) ⟨.bl _, _, I, rfl, hq _ _ (Ext.refl S) (.bl _)⟩
      · cases e
    · split at e
      · obtain ⟨c, rfl, rfl⟩ := inS_of e
        exact ⟨_, op_notIn_sign, _, _, hx.str.1, hy.str.1, hq _ _ (Ext.refl S) (.bl _)⟩
      · cases e
    · cases e
  · cases hz
end
end DL
namespace DL
open PySem PySem.Spec L2
section
variable {X : Cx} {e a b c : Expr} {pos : Pos}
def mNeg (m : SE) : SE := fun r => match m r with | some (.int i, r') => some (.int (-i), r') | _ => none
theorem okE_neg {m : SE} (h : OkE X a m) : OkE X (.UnaryOp .USub a pos) (mNeg m) := by
  intro P sg H r Q d r' S hm hq
  unfold mNeg at hm
  split at hm
  · rename_i i r1 e1
    cases hm
    refine UE.of (pe_un un_neg UE.pe) (h P sg H r _ _ _ S e1 fun v H1 E1 q1 => ?_)
    cases q1
    exact ⟨_, rfl, hq _ H1 E1 (.int _)⟩
  · cases hm
def mNot (m : ST) : ST := fun r => match m r with | some (b, r') => some (!b, r') | none => none
theorem okT_not {m : ST} (h : OkT X a m) : OkT X (.UnaryOp .Not a pos) (mNot m) := by
  intro P sg H r Q d r' S hm hq
  unfold mNot at hm
  split at hm
  · rename_i i r1 e1
    cases hm
    exact UT.of (pt_not UT.pt) (h P sg H r _ _ _ S e1 fun H1 E1 => hq H1 E1)
  · cases hm
def mNotV (m : SE) : SE := fun r => match m r with | some (.bool b, r') => some (.bool (!b), r') | _ => none
theorem okE_not {m : SE} (h : OkE X a m) : OkE X (.UnaryOp .Not a pos) (mNotV m) := by
  intro P sg H r Q d r' S hm hq
  unfold mNotV at hm
  split at hm
  · rename_i i r1 e1
    cases hm
    refine UE.of (pe_not UE.pe) (h P sg H r _ _ _ S e1 fun v H1 E1 q1 => ?_)
    cases q1
    exact ⟨_, rfl, hq _ H1 E1 (.bl _)⟩
  · cases hm
def mAnd (m n : SE) : SE := fun r => match m r with | some (.bool true, r') => n r' | some (.bool false, r') => some (.bool false, r') | _ => none
def mOr (m n : SE) : SE := fun r => match m r with | some (.bool false, r') => n r' | some (.bool true, r') => some (.bool true, r') | _ => none
theorem okE_one {m : SE} {op : BoolOp} (h : OkE X a m) : OkE X (.BoolOp op [a] pos) m := fun P sg H r Q d r' S hm hq => UE.of (pe_one UE.pe) (h P sg H r Q d r' S hm hq)
theorem okE_and {rest : List Expr} {m n : SE} (h : OkE X a m) (hn : OkE X (.BoolOp .And (b :: rest) pos) n) : OkE X (.BoolOp .And (a :: b :: rest) pos) (mAnd m n) := by
  intro P sg H r Q d r' S hm hq
  unfold mAnd at hm
  split at hm
  · rename_i r1 e1
    refine UE.of (pe_and UE.pe UE.pe) (h P sg H r _ _ _ S e1 fun v H1 E1 q1 => ?_)
    cases q1
    refine ⟨_, rfl, ?_⟩
    rw [if_pos rfl]
    exact hn P sg H1 r1 Q d r' E1.sim hm fun w H2 E2 q2 => hq w H2 (E1.trans E2) q2
  · rename_i r1 e1
    cases hm
    refine UE.of (pe_and UE.pe UE.pe) (h P sg H r _ _ _ S e1 fun v H1 E1 q1 => ?_)
    cases q1
    refine ⟨_, rfl, ?_⟩
    rw [if_neg Bool.false_ne_true]
    exact hq _ H1 E1 (.bl _)
  · cases hm
def tAndM (m n : ST) : ST := fun r => match m r with | some (true, r') => n r' | some (false, r') => some (false, r') | none => none
def tOrM (m n : ST) : ST := fun r => match m r with | some (false, r') => n r' | some (true, r') => some (true, r') | none => none
/-- and, or: whatever the whole is -/
def UW (X : Cx) (e : Expr) : TT := fun sg H Q => ∀ whole pins s, Inv X pins sg H s → wpAny (model X.prog X.w) X.A (isTrue e X.env whole) (TP X pins sg Q) X.xe s
theorem UW.pw {X : Cx} {e : Expr} : PW X e (UW X e) := ⟨fun wh pins s _ _ _ I h => h wh pins s I⟩
theorem UW.of {X : Cx} {e : Expr} {t : TT} {sg H Q} (h : PW X e t) (q : t sg H Q) : UW X e sg H Q := fun wh pins s I => h.run wh pins s sg H Q I q
def OkW (X : Cx) (e : Expr) (m : ST) : Prop := ∀ (P : Addr → Prop) (sg : St) (H : Hp) (r : Env) (Q : Bool → Hp → Prop) (b : Bool) (r' : Env), Sim X.K P sg H r → m r = some (b, r') →
  (∀ H', Ext X.K P sg r H r' H' → Q b H') → UW X e sg H Q
theorem OkW.t {m : ST} (h : OkW X e m) : OkT X e m := fun P sg H r Q b r' S hm hq => UT.of UW.pw.pt (h P sg H r Q b r' S hm hq)
theorem okW_and1 {m : ST} (h : OkT X a m) : OkW X (.BoolOp .And [a] pos) m := fun P sg H r Q b r' S hm hq => UW.of (pw_and1 UT.pt) (h P sg H r Q b r' S hm hq)
theorem okW_or1 {m : ST} (h : OkT X a m) : OkW X (.BoolOp .Or [a] pos) m := fun P sg H r Q b r' S hm hq => UW.of (pw_or1 UT.pt) (h P sg H r Q b r' S hm hq)
theorem okW_and {rest : List Expr} {m n : ST} (h : OkT X a m) (hn : OkW X (.BoolOp .And (b :: rest) pos) n) : OkW X (.BoolOp .And (a :: b :: rest) pos) (tAndM m n) := by
  intro P sg H r Q d r' S hm hq
  unfold tAndM at hm
  split at hm
  · rename_i r1 e1
    refine UW.of (pw_and UT.pt UW.pw) (h P sg H r _ _ _ S e1 fun H1 E1 => ?_)
    rw [if_pos rfl]
    exact hn P sg H1 r1 Q d r' E1.sim hm fun H2 E2 => hq H2 (E1.trans E2)
  · rename_i r1 e1
    cases hm
    refine UW.of (pw_and UT.pt UW.pw) (h P sg H r _ _ _ S e1 fun H1 E1 => ?_)
    rw [if_neg Bool.false_ne_true]
    exact hq H1 E1
  · cases hm
theorem okW_or {rest : List Expr} {m n : ST} (h : OkT X a m) (hn : OkW X (.BoolOp .Or (b :: rest) pos) n) : OkW X (.BoolOp .Or (a :: b :: rest) pos) (tOrM m n) := by
  intro P sg H r Q d r' S hm hq
  unfold tOrM at hm
  split at hm
  · rename_i r1 e1
    refine UW.of (pw_or UT.pt UW.pw) (h P sg H r _ _ _ S e1 fun H1 E1 => ?_)
    rw [if_neg Bool.false_ne_true]
    exact hn P sg H1 r1 Q d r' E1.sim hm fun H2 E2 => hq H2 (E1.trans E2)
  · rename_i r1 e1
    cases hm
    refine UW.of (pw_or UT.pt UW.pw) (h P sg H r _ _ _ S e1 fun H1 E1 => ?_)
    rw [if_pos rfl]
    exact hq H1 E1
  · cases hm
def mIf (c : ST) (m n : SE) : SE := fun r => match c r with | some (true, r') => m r' | some (false, r') => n r' | none => none
theorem okE_if {mc : ST} {m n : SE} (hc : OkT X c mc) (h : OkE X a m) (hn : OkE X b n) : OkE X (.IfExp c a b pos) (mIf mc m n) := by
  intro P sg H r Q d r' S hm hq
  unfold mIf at hm
  split at hm
  · rename_i r1 e1
    refine UE.of (pe_ifExp UT.pt UE.pe UE.pe) (hc P sg H r _ _ _ S e1 fun H1 E1 => ?_)
    rw [if_pos rfl]
    exact h P sg H1 r1 Q d r' E1.sim hm fun w H2 E2 q2 => hq w H2 (E1.trans E2) q2
  · rename_i r1 e1
    refine UE.of (pe_ifExp UT.pt UE.pe UE.pe) (hc P sg H r _ _ _ S e1 fun H1 E1 => ?_)
    rw [if_neg Bool.false_ne_true]
    exact hn P sg H1 r1 Q d r' E1.sim hm fun w H2 E2 q2 => hq w H2 (E1.trans E2) q2
  · cases hm
def truth : D → Option Bool
  | .none => some false
  | .bool b => some b
  | .int i => some (i != 0)
  | .str x => if x.length ≤ sizeLine then some ((x.length : Int) != 0) else none
  | .list xs => some (!xs.isEmpty)
  | .tuple xs => some (!xs.isEmpty)
  | .dict _ => none
theorem truth_ok {s : Bool} {K : PySem.W.Frag} {L : Addr → Prop} {H : Hp} {v : V} {d : D} {b : Bool} (h : Bor s K L H v d) (e : truth d = some b) : TruV K v H b := by
  cases d with
  | none => cases e; cases h.none; rfl
  | bool c => cases e; cases h.bool; rfl
  | int i => cases e; cases h.int; rfl
  | str x =>
    unfold truth at e
    simp only at e
    split at e
    · rename_i hl
      cases e
      cases h.str.1
      exact ⟨hl, rfl⟩
    · cases e
  | list xs =>
    cases e
    obtain ⟨p, vs, rfl, h1, r1, _⟩ := h.list
    exact .inl ⟨vs, h1, by cases r1 <;> rfl⟩
  | tuple xs =>
    cases e
    obtain ⟨p, vs, rfl, h1, r1⟩ := h.tuple
    exact .inr (.inl ⟨vs, h1, by cases r1 <;> rfl⟩)
  | dict _ => cases e
def mTru (o : Opd) : ST := fun r => if o.here r then match o.pre r with
  | some (x, r') => match o.post true x r' with
    | some d => match truth d with | some b => some (b, r') | none => none
    | none => none
  | none => none else none
theorem v5 {o : Opd} (h : OkO X a o) (he : ∀ whole, isTrue a X.env whole = (do let v ← whole; standAt a.pos; holding [v] (truthy v))) : OkT X a (mTru o) := by
  intro P sg H r Q d r' S hm hq
  unfold mTru at hm
  split at hm
  · rename_i h0
    split at hm
    · rename_i x r1 e1
      split at hm
      · rename_i y e2
        split at hm
        · rename_i z e3
          cases hm
          refine UT.of (pt_truth UE.pe he) (h P sg H r _ _ _ S e1 (fun v H1 E1 q1 => ⟨d, truth_ok (q1.done E1.sim e2) e3, hq H1 E1⟩) (here_of h0))
        · cases hm
      · cases hm
    · cases hm
  · cases hm
def mCh (f g : Int → Int → Bool) (ma mb mc : SE) : SE := fun r => match ma r with
  | some (.int i, r1) => match mb r1 with
    | some (.int j, r2) => if f i j then (match mc r2 with | some (.int k, r3) => some (.bool (g j k), r3) | _ => none) else some (.bool false, r2)
    | _ => none
  | _ => none
def tBool (m : SE) : ST := fun r => match m r with | some (.bool b, r') => some (b, r') | _ => none
theorem RepL.atI {K L H} {xs : List V} {ds : List D} {i : Int} {x : D} (h : RepL K L H xs ds) (e : L2.atI ds i = some x) : ∃ v, L2.atI xs i = some v ∧ Rep K L H v x := by
  unfold L2.atI at e ⊢
  rw [h.length]
  cases q : ixN ds.length i with
  | none => rw [q] at e; cases e
  | some j =>
    rw [q] at e
    obtain ⟨v, h1, h2⟩ := h.get (show ds[j]? = some x from e)
    exact ⟨v, h1, h2⟩
theorem strOk_one {z : Str} {i : Int} {c : Nat} (h : PyData.strOk z = true) (e : L2.atI z.cps.toList i = some c) : PyData.strOk ⟨#[c]⟩ = true := by
  obtain ⟨j, _, h2, _⟩ := atI_get e
  unfold PyData.strOk at h ⊢
  rw [← Array.all_toList, List.all_eq_true] at h
  have := h c (List.mem_of_getElem? h2)
  simpa using this
def fIx : D → D → Option D
  | .list ds, .int i => L2.atI ds i
  | .tuple ds, .int i => L2.atI ds i
  | .str z, .int i => if z.length ≤ sizeLine then (match L2.atI z.cps.toList i with | some c => some (.str ⟨#[c]⟩) | none => none) else none
  | _, _ => none
def IxS (X : Cx) (g : D → D → Option D) : Prop := ∀ (P : Addr → Prop) (sg : St) (H : Hp) (r : Env) (v u : V) (x y z : D) (Q : VK), Sim X.K P sg H r →
  Bor true X.K (Lv P sg r) H v x → Bor true X.K (Lv P sg r) H u y → g x y = some z → (∀ w H', Ext X.K P sg r H r H' → Rep X.K (Lv P sg r) H' w z → Q w H') → ixB X v u H Q
theorem ixS : IxS X fIx := by
  intro P sg H r v u x y z Q S hx hy hz hq
  unfold fIx at hz
  split at hz
  · obtain ⟨p, vs, rfl, h1, r1, _⟩ := hx.list
    obtain ⟨w, h2, h3⟩ := r1.atI hz
    exact ⟨_, ix_list, p, vs, _, w, rfl, hy.int, h1, h2, hq w H (Ext.refl S) h3⟩
  · obtain ⟨p, vs, rfl, h1, r1⟩ := hx.tuple
    obtain ⟨w, h2, h3⟩ := r1.atI hz
    exact ⟨_, ix_tup, p, vs, _, w, rfl, hy.int, h1, h2, hq w H (Ext.refl S) h3⟩
  · split at hz
    · rename_i hl
      split at hz
      · rename_i c e
        cases hz
        exact ⟨_, ix_str, _, _, c, hx.str.1, hy.int, hl, e, hq _ H (Ext.refl S) (.str _ (strOk_one hx.str.2 e))⟩
      · cases hz
    · cases hz
  · cases hz
theorem j3 {oa ob : Opd} (ha : OkO X a oa) (hb : OkO X b ob) (hs : PlainIx b) : OkE X (.Subscript a b pos) (mBin true oa ob fIx) := by
  intro P sg H r Q d r' S hm hq
  unfold mBin at hm
  split at hm
  · rename_i x y r1 e1
    split at hm
    · rename_i z e2
      cases hm
      refine UE.of (pe_ix ixB_ok UE.pe UE.pe hs) (two_ok ha hb S e1 fun v u H2 E bx bq => ?_)
      exact ixS P sg H2 _ v u x y _ Q E.sim bx bq e2 fun w H' E' q => hq w H' (E.trans E') q
    · cases hm
  · cases hm
def partM : Option SE → Env → Option (Option Int × Env)
  | none, r => some (none, r)
  | some m, r => match m r with | some (.int i, r') => some (some i, r') | _ => none
def UO (X : Cx) (e : Option Expr) : TO := fun sg H Q => ∀ pins s, Inv X pins sg H s → wpAny (model X.prog X.w) X.A (evalPart e X.env) (fun u s' => ∃ o H', Inv X pins sg H' s' ∧ IsPart u o ∧ Q o H') X.xe s
theorem UO.po {X : Cx} {e : Option Expr} : PO X e (UO X e) := ⟨fun pins s _ _ _ I h => h pins s I⟩
theorem UO.of {X : Cx} {e : Option Expr} {t : TO} {sg H Q} (h : PO X e t) (q : t sg H Q) : UO X e sg H Q := fun pins s I => h.run pins s sg H Q I q
def OkP (X : Cx) (e : Option Expr) (m : Option SE) : Prop := ∀ (P : Addr → Prop) (sg : St) (H : Hp) (r : Env) (Q : Option Int → Hp → Prop) (o : Option Int) (r' : Env), Sim X.K P sg H r → partM m r = some (o, r') →
  (∀ H', Ext X.K P sg r H r' H' → Q o H') → UO X e sg H Q
theorem okP_none : OkP X none none := by
  intro P sg H r Q o r' S hm hq
  cases hm
  exact UO.of po_none (hq H (Ext.refl S))
theorem okP_some {m : SE} (h : OkE X e m) : OkP X (some e) (some m) := by
  intro P sg H r Q o r' S hm hq
  unfold partM at hm
  simp only at hm
  split at hm
  · rename_i i r1 e1
    cases hm
    refine UO.of (po_some UE.pe) (h P sg H r _ _ _ S e1 fun v H1 E1 q1 => ?_)
    cases q1
    exact ⟨i, rfl, hq H1 E1⟩
  · cases hm
def cutG {α : Type} (xs : List α) (lo hi : Option Int) : List α := (xs.drop (HT.sIx xs.length 0 lo)).take (HT.sIx xs.length xs.length hi - HT.sIx xs.length 0 lo)
theorem RepL.cut {K L H} {xs : List V} {ds : List D} (h : RepL K L H xs ds) (lo hi : Option Int) : RepL K L H (cutV xs lo hi) (cutG ds lo hi) := by
  unfold cutV cutG
  rw [h.length]
  exact (h.drop _).take _
theorem strOk_sub {z : Str} {l : List Nat} (h : PyData.strOk z = true) (hl : ∀ c ∈ l, c ∈ z.cps.toList) : PyData.strOk ⟨l.toArray⟩ = true := by
  unfold PyData.strOk at h ⊢
  rw [← Array.all_toList, List.all_eq_true] at h ⊢
  exact fun c hc => h c (hl c hc)
def fCut (x : D) (lo hi : Option Int) : Option D := match x with
  | .list ds => some (.list (cutG ds lo hi))
  | .tuple ds => some (.tuple (cutG ds lo hi))
  | .str z => if z.length ≤ sizeLine then some (.str (cutS z lo hi)) else none
  | _ => none
def slB (X : Cx) : V → Option Int → Option Int → Hp → VK → Prop := fun x lo hi H Q => ∃ r, SlR X r ∧ r x lo hi H Q
theorem slB_ok : SlR X (slB X) := by
  intro pins s sg H x v vl vu lo hi sl Q I rx hs pl pu q
  obtain ⟨r, hr, h⟩ := q
  exact hr pins s sg H x v vl vu lo hi sl Q I rx hs pl pu h
theorem cut_whole {α : Type} {xs : List α} {lo hi : Option Int} (h : HT.sIx xs.length 0 lo = 0 ∧ HT.sIx xs.length xs.length hi = xs.length) : cutG xs lo hi = xs := by
  unfold cutG
  rw [h.1, h.2]
  simp
theorem slS {P : Addr → Prop} {sg : St} {H : Hp} {r : Env} {v : V} {x z : D} {lo hi : Option Int} {Q : VK} (S : Sim X.K P sg H r) (hx : Bor true X.K (Lv P sg r) H v x) (hz : fCut x lo hi = some z)
    (hq : ∀ w H', Ext X.K P sg r H r H' → Rep X.K (Lv P sg r) H' w z → Q w H') : slB X v lo hi H Q := by
  unfold fCut at hz
  split at hz
  · cases hz
    obtain ⟨p, vs, rfl, h1, r1, _⟩ := hx.list
    exact ⟨_, sl_list, p, vs, rfl, h1, fun q hn => hq _ _ (S.new _ hn) (S.newLst hn (r1.cut lo hi))⟩
  · rename_i ds
    cases hz
    obtain ⟨p, vs, rfl, h1, r1⟩ := hx.tuple
    refine ⟨_, sl_tupA, p, vs, rfl, h1, fun hw => ?_, fun _ q hn => hq _ _ (S.new _ hn) (S.newTup hn (r1.cut lo hi))⟩
    rw [r1.length] at hw
    have e : cutG ds lo hi = ds := cut_whole hw
    rw [e] at hq
    refine hq _ H (Ext.refl S) ?_
    cases hx with | rep hx => exact hx
  · split at hz
    · rename_i hl
      cases hz
      refine ⟨_, sl_str, _, hx.str.1, hl, hq _ H (Ext.refl S) (.str _ (strOk_sub hx.str.2 fun c hc => ?_))⟩
      exact List.mem_of_mem_drop (List.mem_of_mem_take hc)
    · cases hz
  · cases hz
def mCut (oa : Opd) (lo hi : Option SE) : SE := fun r => if oa.here r then match oa.pre r with
  | some (x, r1) => match partM lo r1 with
    | some (l, r2) => match partM hi r2 with
      | some (h, r3) => match oa.post true x r3 with
        | some d => match fCut d l h with | some z => some (z, r3) | none => none
        | none => none
      | none => none
    | none => none
  | none => none else none
theorem okE_cut {oa : Opd} {lo hi : Option Expr} {ml mh : Option SE} {p2 : Pos} (ha : OkO X a oa) (hl : OkP X lo ml) (hh : OkP X hi mh) : OkE X (.Subscript a (.Slice lo hi none p2) pos) (mCut oa ml mh) := by
  intro P sg H r Q d r' S hm hq
  unfold mCut at hm
  split at hm
  · rename_i h0
    split at hm
    · rename_i x r1 e1
      split at hm
      · rename_i l r2 e2
        split at hm
        · rename_i h r3 e3
          split at hm
          · rename_i d' e4
            split at hm
            · rename_i z e5
              cases hm
              refine UE.of (pe_slice slB_ok UE.pe UO.po UO.po) ?_
              refine ha P sg H r _ _ _ S e1 (fun v H1 E1 q1 => ?_) (here_of h0)
              refine hl P sg H1 r1 _ _ _ E1.sim e2 fun H2 E2 => ?_
              refine hh P sg H2 r2 _ _ _ E2.sim e3 fun H3 E3 => ?_
              have b1 := ((q1.ext E2).ext E3).done E3.sim e4
              exact slS E3.sim b1 e5 fun w H' E' q => hq w H' (((E1.trans E2).trans E3).trans E') q
            · cases hm
          · cases hm
        · cases hm
      · cases hm
    · cases hm
  · cases hm
end
end DL
namespace DL
open PySem PySem.Spec L2
def preAll : List Opd → Env → Option (List (Option D) × Env)
  | [], r => some ([], r)
  | o :: os, r => if o.here r then match o.pre r with
    | some (x, r1) => match preAll os r1 with | some (xs, r2) => some (x :: xs, r2) | none => none
    | none => none else none
def postAll (s : Bool) : List Opd → List (Option D) → Env → Option (List D)
  | [], [], _ => some []
  | o :: os, x :: xs, r => match o.post s x r with
    | some d => match postAll s os xs r with | some ds => some (d :: ds) | none => none
    | none => none
  | _, _, _ => none
def PendL (K : PySem.W.Frag) (P : Addr → Prop) (sg : St) : List Opd → List V → List (Option D) → Env → Hp → Prop
  | [], vs, xs, _, _ => vs = [] ∧ xs = []
  | o :: os, vs, xs, r, H => ∃ v vs' x xs', vs = v :: vs' ∧ xs = x :: xs' ∧ Pend K P sg o v x r H ∧ PendL K P sg os vs' xs' r H
theorem PendL.ext {K : PySem.W.Frag} {P : Addr → Prop} {sg : St} {r r' : Env} {H H' : Hp} (E : Ext K P sg r H r' H') : ∀ {os : List Opd} {vs : List V} {xs : List (Option D)}, PendL K P sg os vs xs r H → PendL K P sg os vs xs r' H'
  | [], _, _, h => h
  | o :: os, _, _, ⟨v, vs', x, xs', e1, e2, h1, h2⟩ => ⟨v, vs', x, xs', e1, e2, h1.ext E, PendL.ext E h2⟩
inductive BorL (s : Bool) (K : PySem.W.Frag) (L : Addr → Prop) (H : Hp) : List V → List D → Prop
  | nil : BorL s K L H [] []
  | cons {v : V} {vs : List V} {d : D} {ds : List D} : Bor s K L H v d → BorL s K L H vs ds → BorL s K L H (v :: vs) (d :: ds)
theorem PendL.done {s : Bool} {K : PySem.W.Frag} {P : Addr → Prop} {sg : St} {r : Env} {H : Hp} (S : Sim K P sg H r) : ∀ {os : List Opd} {vs : List V} {xs : List (Option D)} {ds : List D}, PendL K P sg os vs xs r H → postAll s os xs r = some ds → BorL s K (Lv P sg r) H vs ds
  | [], _, _, _, ⟨rfl, rfl⟩, e => by cases e; exact .nil
  | o :: os, _, _, _, ⟨v, vs', x, xs', rfl, rfl, h1, h2⟩, e => by
    unfold postAll at e
    split at e
    · rename_i d e1
      split at e
      · rename_i ds' e2
        cases e
        exact .cons (h1.done S e1) (PendL.done S h2 e2)
      · cases e
    · cases e
def OkAO (X : Cx) (es : List Expr) (os : List Opd) : Prop := ∀ (P : Addr → Prop) (sg : St) (H : Hp) (r : Env) (Q : List V → Hp → Prop) (xs : List (Option D)) (r' : Env), Sim X.K P sg H r → preAll os r = some (xs, r') →
  (∀ vs H', Ext X.K P sg r H r' H' → PendL X.K P sg os vs xs r' H' → Q vs H') → UA X es sg H Q
section
variable {X : Cx} {e : Expr} {es : List Expr} {pos p : Pos} {x : Str}
theorem okAO_nil : OkAO X [] [] := by
  intro P sg H r Q xs r' S hm hq
  cases hm
  exact UA.of pa_nil (hq [] H (Ext.refl S) ⟨rfl, rfl⟩)
theorem okAO_cons {o : Opd} {os : List Opd} (h : OkO X e o) (hn : OkAO X es os) (hs : starEach (e :: es) X.env = (false, eval e X.env) :: starEach es X.env) : OkAO X (e :: es) (o :: os) := by
  intro P sg H r Q xs r' S hm hq
  unfold preAll at hm
  split at hm
  · rename_i h0
    split at hm
    · rename_i y r1 e1
      split at hm
      · rename_i ys r2 e2
        cases hm
        refine UA.of (pa_cons UE.pe UA.pa hs) ?_
        refine h P sg H r _ _ _ S e1 (fun v H1 E1 q1 => ?_) (here_of h0)
        refine hn P sg H1 r1 _ _ _ E1.sim e2 fun vs H2 E2 q2 => ?_
        exact hq (v :: vs) H2 (E1.trans E2) ⟨v, vs, y, ys, rfl, rfl, q1.ext E2, q2⟩
      · cases hm
    · cases hm
  · cases hm
def CallS (s : Bool) (X : Cx) (f : Value) (g : List D → Option D) : Prop := ∀ (P : Addr → Prop) (sg : St) (H : Hp) (r : Env) (vs : List V) (ds : List D) (z : D) (Q : VK), Sim X.K P sg H r →
  BorL s X.K (Lv P sg r) H vs ds → g ds = some z → (∀ w H', Ext X.K P sg r H r H' → Rep X.K (Lv P sg r) H' w z → Q w H') → caB X f vs H Q
def mCall (s : Bool) (os : List Opd) (g : List D → Option D) : SE := fun r => match preAll os r with
  | some (xs, r') => match postAll s os xs r' with
    | some ds => match g ds with | some z => some (z, r') | none => none
    | none => none
  | none => none
structure NoStar (X : Cx) (e : Expr) (es : List Expr) (pos : Pos) : Prop where
  he : starEach (e :: es) X.env = (false, eval e X.env) :: starEach es X.env
  hpl : (backTo pos (starEach es X.env)).any (·.1) = false
theorem okE_callB {s : Bool} {os : List Opd} {g : List D → Option D} {id : String} (hc : CallS s X (.builtin id) g) (hg : Gl X x) (hm' : X.mg x = none) (hv : bootBuiltins x = some (.builtin id)) (ha : OkAO X (e :: es) os) (hn : x ≠ "__name__") (hdb : (x == ("__debug__" : Str)) = false)
    (N : NoStar X e es pos) : OkE X (.Call (.Name x p) (e :: es) [] pos) (mCall s os g) := by
  intro P sg H r Q d r' S hm hq
  unfold mCall at hm
  split at hm
  · rename_i xs r1 e1
    split at hm
    · rename_i ds e2
      split at hm
      · rename_i z e3
        cases hm
        refine UE.of (pe_callB caB_ok hg hm' hv UA.pa hn hdb N.he N.hpl) (ha P sg H r _ _ _ S e1 fun vs H1 E1 q1 => ?_)
        exact hc P sg H1 _ vs ds _ Q E1.sim (q1.done E1.sim e2) e3 fun w H' E' q => hq w H' (E1.trans E') q
      · cases hm
    · cases hm
  · cases hm
theorem okE_callTy {s : Bool} {os : List Opd} {g : List D → Option D} {id : String} (hc : CallS s X (.type id) g) (hg : Gl X x) (hm' : X.mg x = none) (hv : bootBuiltins x = some (.type id)) (ha : OkAO X (e :: es) os) (hn : x ≠ "__name__") (hdb : (x == ("__debug__" : Str)) = false)
    (N : NoStar X e es pos) : OkE X (.Call (.Name x p) (e :: es) [] pos) (mCall s os g) := by
  intro P sg H r Q d r' S hm hq
  unfold mCall at hm
  split at hm
  · rename_i xs r1 e1
    split at hm
    · rename_i ds e2
      split at hm
      · rename_i z e3
        cases hm
        refine UE.of (pe_callTy caB_ok hg hm' hv UA.pa hn hdb N.he N.hpl) (ha P sg H r _ _ _ S e1 fun vs H1 E1 q1 => ?_)
        exact hc P sg H1 _ vs ds _ Q E1.sim (q1.done E1.sim e2) e3 fun w H' E' q => hq w H' (E1.trans E') q
      · cases hm
    · cases hm
  · cases hm
theorem BorL.one {s K L H} {vs : List V} {d : D} (h : BorL s K L H vs [d]) : ∃ v, vs = [v] ∧ Bor s K L H v d := by
  cases h with | cons h t => cases t; exact ⟨_, rfl, h⟩
theorem BorL.two {s K L H} {vs : List V} {d d' : D} (h : BorL s K L H vs [d, d']) : ∃ v v', vs = [v, v'] ∧ Bor s K L H v d ∧ Bor s K L H v' d' := by
  cases h with | cons h t => cases t with | cons h' t => cases t; exact ⟨_, _, rfl, h, h'⟩
def fLen : List D → Option D
  | [.list xs] => some (.int xs.length)
  | [.tuple xs] => some (.int xs.length)
  | [.str x] => if x.length ≤ sizeLine then some (.int x.length) else none
  | _ => none
theorem callS_len : CallS true X (.builtin "len") fLen := by
  intro P sg H r vs ds z Q S hb hz hq
  unfold fLen at hz
  split at hz
  · cases hz
    obtain ⟨v, rfl, h⟩ := hb.one
    obtain ⟨a, us, rfl, h1, r1, _⟩ := h.list
    refine ⟨_, call_len, _, _, rfl, .inl ⟨us, h1, rfl⟩, ?_⟩
    rw [r1.length]
    exact hq _ H (Ext.refl S) (.int _)
  · cases hz
    obtain ⟨v, rfl, h⟩ := hb.one
    obtain ⟨a, us, rfl, h1, r1⟩ := h.tuple
    refine ⟨_, call_len, _, _, rfl, .inr ⟨us, h1, rfl⟩, ?_⟩
    rw [r1.length]
    exact hq _ H (Ext.refl S) (.int _)
  · split at hz
    · rename_i hl
      cases hz
      obtain ⟨v, rfl, h⟩ := hb.one
      cases h.str.1
      exact ⟨_, call_len, _, _, rfl, ⟨hl, rfl⟩, hq _ H (Ext.refl S) (.int _)⟩
    · cases hz
  · cases hz
def fInt : List D → Option D
  | [.int i] => some (.int i)
  | [.bool b] => some (.int (if b then 1 else 0))
  | _ => none
theorem callS_int : CallS true X (.type "int") fInt := by
  intro P sg H r vs ds z Q S hb hz hq
  unfold fInt at hz
  split at hz
  · cases hz
    obtain ⟨v, rfl, h⟩ := hb.one
    cases h.int
    exact ⟨_, call_int1, .inl ⟨_, rfl, hq _ H (Ext.refl S) (.int _)⟩⟩
  · cases hz
    obtain ⟨v, rfl, h⟩ := hb.one
    cases h.bool
    exact ⟨_, call_int1, .inr ⟨_, rfl, hq _ H (Ext.refl S) (.int _)⟩⟩
  · cases hz
def fAbs : List D → Option D
  | [.int i] => some (.int (if i < 0 then -i else i))
  | _ => none
theorem callS_abs : CallS true X (.builtin "abs") fAbs := by
  intro P sg H r vs ds z Q S hb hz hq
  unfold fAbs at hz
  split at hz
  · cases hz
    obtain ⟨v, rfl, h⟩ := hb.one
    cases h.int
    exact ⟨_, call_abs, _, rfl, hq _ H (Ext.refl S) (.int _)⟩
  · cases hz
def fMin : List D → Option D
  | [.int i, .int j] => some (.int (if j < i then j else i))
  | _ => none
theorem callS_min (hc : X.calm = true) : CallS true X (.builtin "min") fMin := by
  intro P sg H r vs ds z Q S hb hz hq
  unfold fMin at hz
  split at hz
  · cases hz
    obtain ⟨v, u, rfl, h, h'⟩ := hb.two
    cases h.int
    cases h'.int
    exact ⟨_, call_min2 hc, _, _, rfl, hq _ H (Ext.refl S) (.int _)⟩
  · cases hz
def fMax : List D → Option D
  | [.int i, .int j] => some (.int (if j > i then j else i))
  | _ => none
def fTuple : List D → Option D
  | [.list xs] => some (.tuple xs)
  | [.tuple xs] => some (.tuple xs)
  | _ => none
theorem callS_tuple : CallS true X (.type "tuple") fTuple := by
  intro P sg H r vs ds z Q S hb hz hq
  unfold fTuple at hz
  split at hz
  · cases hz
    obtain ⟨v, rfl, h⟩ := hb.one
    obtain ⟨a, us, rfl, h1, r1, _⟩ := h.list
    exact ⟨_, call_tuple_of, a, us, rfl, .inl ⟨h1, fun l hl => hq _ _ (S.new _ hl) (S.newTup hl r1)⟩⟩
  · cases hz
    obtain ⟨v, rfl, h⟩ := hb.one
    obtain ⟨a, us, rfl, h1, r1⟩ := h.tuple
    refine ⟨_, call_tuple_of, a, us, rfl, .inr ⟨h1, hq _ _ (Ext.refl S) ?_⟩⟩
    cases h with | rep h => exact h
  · cases hz
def boolsOf : List D → Option (List Bool)
  | [] => some []
  | .bool b :: r => match boolsOf r with | some bs => some (b :: bs) | none => none
  | _ => none
theorem boolsOf_rep {K L H} : ∀ {vs : List V} {ds : List D} {bs : List Bool}, RepL K L H vs ds → boolsOf ds = some bs → vs = bs.map V.bl
  | _, _, _, .nil, e => by cases e; rfl
  | _, _, _, .cons r t, e => by
    cases r with
    | bl b =>
      unfold boolsOf at e
      split at e
      · rename_i bs' e1
        cases e
        rw [boolsOf_rep t e1]
        all_goals rfl
      · cases e
    | _ => cases e
def fAll : List D → Option D
  | [.list xs] => match boolsOf xs with | some bs => some (.bool (bs.all id)) | none => none
  | _ => none
def fAny : List D → Option D
  | [.list xs] => match boolsOf xs with | some bs => some (.bool (bs.any id)) | none => none
  | _ => none
theorem callS_all (hc : X.calm = true) : CallS true X (.builtin "all") fAll := by
  intro P sg H r vs ds z Q S hb hz hq
  unfold fAll at hz
  split at hz
  · split at hz
    · rename_i bs e
      cases hz
      obtain ⟨v, rfl, h⟩ := hb.one
      obtain ⟨a, us, rfl, h1, r1, _⟩ := h.list
      rw [boolsOf_rep r1 e] at h1
      exact ⟨_, cr_all hc, a, bs, rfl, h1, hq _ H (Ext.refl S) (.bl _)⟩
    · cases hz
  · cases hz
theorem callS_any (hc : X.calm = true) : CallS true X (.builtin "any") fAny := by
  intro P sg H r vs ds z Q S hb hz hq
  unfold fAny at hz
  split at hz
  · split at hz
    · rename_i bs e
      cases hz
      obtain ⟨v, rfl, h⟩ := hb.one
      obtain ⟨a, us, rfl, h1, r1, _⟩ := h.list
      rw [boolsOf_rep r1 e] at h1
      exact ⟨_, cr_any hc, a, bs, rfl, h1, hq _ H (Ext.refl S) (.bl _)⟩
    · cases hz
  · cases hz
def nList (o : Opd) : SA := fun r => if o.here r then match o.pre r with
  | some (y, r') => match o.post true y r' with
    | some (.list xs) => some (xs, r')
    | some (.tuple xs) => some (xs, r')
    | _ => none
  | none => none else none
def tyName : D → String
  | .none => "NoneType"
  | .bool _ => "bool"
  | .int _ => "int"
  | .str _ => "str"
  | .list _ => "list"
  | .tuple _ => "tuple"
  | .dict _ => "dict"
def isT (d : D) (t : String) : Option Bool := match d with
  | .none => if t = "int" ∨ t = "bool" ∨ t = "str" ∨ t = "list" ∨ t = "tuple" then some false else none
  | .bool _ => if t = "int" ∨ t = "bool" then some true else if t = "str" ∨ t = "list" ∨ t = "tuple" then some false else none
  | .int _ => if t = "int" then some true else if t = "bool" ∨ t = "str" ∨ t = "list" ∨ t = "tuple" then some false else none
  | .str _ => if t = "str" then some true else if t = "bool" ∨ t = "int" ∨ t = "list" ∨ t = "tuple" then some false else none
  | .list _ => if t = "list" then some true else if t = "bool" ∨ t = "int" ∨ t = "str" ∨ t = "tuple" then some false else none
  | .tuple _ => if t = "tuple" then some true else if t = "bool" ∨ t = "int" ∨ t = "str" ∨ t = "list" then some false else none
  | .dict _ => none
theorem isT_ok {d : D} {t : String} {b : Bool} (h : isT d t = some b) : kitB (tyName d) t = some b := by
  have k : ∀ a ∈ ["NoneType", "bool", "int", "str", "list", "tuple"], ∀ c ∈ ["bool", "int", "str", "list", "tuple"], kitB a c = some (a == c || (a == "bool" && c == "int")) := by decide +kernel
  cases d <;> unfold isT at h <;> simp only at h
  · split at h
    · rename_i q; cases h; rcases q with q | q | q | q | q <;> subst q <;> exact k _ (by simp [tyName]) _ (by simp)
    · cases h
  · split at h
    · rename_i q; cases h; rcases q with q | q <;> subst q <;> exact k _ (by simp [tyName]) _ (by simp)
    · split at h
      · rename_i q; cases h; rcases q with q | q | q <;> subst q <;> exact k _ (by simp [tyName]) _ (by simp)
      · cases h
  · split at h
    · rename_i q; cases h; subst q; exact k _ (by simp [tyName]) _ (by simp)
    · split at h
      · rename_i q; cases h; rcases q with q | q | q | q <;> subst q <;> exact k _ (by simp [tyName]) _ (by simp)
      · cases h
  · split at h
    · rename_i q; cases h; subst q; exact k _ (by simp [tyName]) _ (by simp)
    · split at h
      · rename_i q; cases h; rcases q with q | q | q | q <;> subst q <;> exact k _ (by simp [tyName]) _ (by simp)
      · cases h
  · split at h
    · rename_i q; cases h; subst q; exact k _ (by simp [tyName]) _ (by simp)
    · split at h
      · rename_i q; cases h; rcases q with q | q | q | q <;> subst q <;> exact k _ (by simp [tyName]) _ (by simp)
      · cases h
  · split at h
    · rename_i q; cases h; subst q; exact k _ (by simp [tyName]) _ (by simp)
    · split at h
      · rename_i q; cases h; rcases q with q | q | q | q <;> subst q <;> exact k _ (by simp [tyName]) _ (by simp)
      · cases h
  · cases h
theorem Bor.ty {s K L H} {v : V} {d : D} (h : Bor s K L H v d) : TyX K H v (.type (tyName d)) := by
  cases h with
  | rep h =>
    cases h with
    | non => exact .base .non
    | bl b => exact .base (.bl b)
    | int i => exact .base (.int i)
    | str x _ => exact .base (.str x)
    | lst h _ _ => exact .base (.lst h)
    | tup h _ _ => exact .base (.tup h)
    | ktup h _ => obtain ⟨o, _, _, h1, h2, _⟩ := h; exact .kTuple h1 h2
  | own h _ => exact .base (.lst h)
  | scr _ h =>
    rcases h with ⟨o, h, _⟩ | ⟨o, its, n, h1, h2, h3, h4, h5, h6⟩
    · exact .base (.frz h)
    · exact .kList h1 h2
def mIsi (o : Opd) (f : D → Option Bool) : SE := fun r => if o.here r then match o.pre r with
  | some (y, r') => match o.post true y r' with
    | some d => match f d with | some b => some (.bool b, r') | none => none
    | none => none
  | none => none else none
/-- a built-in type by its name -/
structure IsTy (X : Cx) (x : Str) (t : String) : Prop where
  g : Gl X x
  m : X.mg x = none
  v : bootBuiltins x = some (.type t)
  n : x ≠ "__name__"
  d : (x == ("__debug__" : Str)) = false
theorem okE_isi1 {o : Opd} {y : Str} {t : String} {py pf : Pos} (hg : Gl X "isinstance") (hm' : X.mg "isinstance" = none) (h : OkO X e o) (T : IsTy X y t)
    (N : NoStar X e [.Name y py] pos) : OkE X (.Call (.Name "isinstance" pf) [e, .Name y py] [] pos) (mIsi o fun d => isT d t) := by
  intro P sg H r Q d r' S hm hq
  unfold mIsi at hm
  split at hm
  · rename_i h0
    split at hm
    · rename_i z r1 e1
      split at hm
      · rename_i d' e2
        split at hm
        · rename_i b e3
          cases hm
          refine UE.of (pe_callB (caB_ok (f := .builtin "isinstance")) hg hm' (by decide +kernel) (pa_cons UE.pe (pa_cons (pe_bltn (v := .ty t) T.g T.m T.v rfl T.n T.d) pa_nil rfl) N.he) (by decide) (by decide) N.he N.hpl) ?_
          refine h P sg H r _ _ _ S e1 (fun v H1 E1 q1 => ?_) (here_of h0)
          exact ⟨_, call_isi, v, .ty t, .type (tyName d'), .type t, b, rfl, .ty t, (q1.done E1.sim e2).ty, kit_ty (isT_ok e3), hq _ H1 E1 (.bl _)⟩
        · cases hm
      · cases hm
    · cases hm
  · cases hm
def isT2 (t u : String) (d : D) : Option Bool := match isT d t with
  | some true => some true
  | some false => isT d u
  | none => none
theorem isT2_ok {K : PySem.W.Frag} {d : D} {t u : String} {b : Bool} (h : isT2 t u d = some b) : PySem.W.kitAny K (.type (tyName d)) [.type t, .type u] = some b := by
  unfold isT2 at h
  split at h
  · rename_i e
    cases h
    exact kitAny_cons (kit_ty (isT_ok e)) (fun z => nomatch z) fun _ => rfl
  · rename_i e
    refine kitAny_cons (kit_ty (isT_ok e)) (fun _ => ?_) (fun z => nomatch z)
    refine kitAny_cons (kit_ty (isT_ok h)) (fun z => ?_) (fun z => z)
    subst z; rfl
  · cases h
theorem okE_isi2 {o : Opd} {y w : Str} {t u : String} {py pw pt pf : Pos} {k : Nat} (hg : Gl X "isinstance") (hm' : X.mg "isinstance" = none) (h : OkO X e o) (T : IsTy X y t) (U : IsTy X w u)
    (N : NoStar X e [.Tuple [.Name y py, .Name w pw] k pt] pos) : OkE X (.Call (.Name "isinstance" pf) [e, .Tuple [.Name y py, .Name w pw] k pt] [] pos) (mIsi o (isT2 t u)) := by
  intro P sg H r Q d r' S hm hq
  unfold mIsi at hm
  split at hm
  · rename_i h0
    split at hm
    · rename_i z r1 e1
      split at hm
      · rename_i d' e2
        split at hm
        · rename_i b e3
          cases hm
          refine UE.of (pe_callB (caB_ok (f := .builtin "isinstance")) hg hm' (by decide +kernel) (pa_cons UE.pe (pa_cons (pe_tup (pa_cons (pe_bltn (v := .ty t) T.g T.m T.v rfl T.n T.d) (pa_cons (pe_bltn (v := .ty u) U.g U.m U.v rfl U.n U.d) pa_nil rfl) rfl)) pa_nil rfl) N.he) (by decide) (by decide) N.he N.hpl) ?_
          refine h P sg H r _ _ _ S e1 (fun v H1 E1 q1 => ?_) (here_of h0)
          refine ⟨by show 2 ≤ sizeLine; decide, fun q hn => ?_⟩
          have E2 := E1.sim.new (.tup [.ty t, .ty u]) hn
          exact ⟨_, call_isiT, v, q, [.ty t, .ty u], .type (tyName d'), [.type t, .type u], b, rfl, upd_same, .cons (.ty t) (.cons (.ty u) .nil), ((q1.ext E2).done E2.sim e2).ty, isT2_ok e3, hq _ _ (E1.trans E2) (.bl _)⟩
        · cases hm
      · cases hm
    · cases hm
  · cases hm
end
end DL
namespace DL
open PySem PySem.Spec L2
def Feeds (K : PySem.W.Frag) (L0 : Addr → Prop) (H0 : Hp) (J : It) (ds : List D) : Prop := ∀ (L : Addr → Prop) (H : Hp), Later L0 H0 L H → (∀ a, L a → ∃ o, H a = some o) → ∀ i : Nat,
  (∀ d, ds[i]? = some d → J.go i H ∧ ∀ x H', J.yld i H x H' → (∀ a o, H a = some o → H' a = some o) ∧ Rep K L H' x d) ∧ (ds.length = i → J.stop i H)
def OkI (X : Cx) (tg it : Expr) (m : SA) : Prop := ∀ (P : Addr → Prop) (sg : St) (H : Hp) (r : Env) (R : It → Hp → Prop) (ds : List D) (r' : Env), Sim X.K P sg H r → m r = some (ds, r') →
  (∀ J H', Ext X.K P sg r H r' H' → Feeds X.K (Lv P sg r') H' J ds → R J H') → UI X tg it sg H R
section
variable {K : PySem.W.Frag} {L : Addr → Prop} {H : Hp}
theorem feeds_list {a : Addr} {xs : List V} {ds : List D} (h : H a = some (.lst xs)) (n : ¬ L a) (r : RepL K L H xs ds) : Feeds K L H (Itl K a) ds := by
  intro L' H' la _ i
  have h' := (la a _ h n).1
  refine ⟨fun d hd => ?_, fun hi => ⟨xs, SqL.of h', by rw [r.length]; exact Nat.le_of_eq hi⟩⟩
  obtain ⟨u, hu, ru⟩ := r.get hd
  refine ⟨⟨xs, u, SqL.of h', hu⟩, fun x H2 y => ?_⟩
  obtain ⟨rfl, y⟩ := y
  have e := (y xs (SqL.of h')).symm.trans hu
  cases e
  exact ⟨fun _ _ q => q, ru.mono la⟩
theorem feeds_scr {a : Addr} {ns : List Int} (h : ScrAt K L H a ns) : Feeds K L H (Itl K a) (ns.map PyData.int) := by
  intro L' H' la _ i
  have sq : SqL K H' a (ns.map V.int) := (h.map fun o h2 h3 => la a _ h2 h3).sq
  have r : RepL K L H (ns.map V.int) (ns.map PyData.int) := repL_ints ns
  refine ⟨fun d hd => ?_, fun hi => ⟨_, sq, by rw [r.length]; exact Nat.le_of_eq hi⟩⟩
  obtain ⟨u, hu, ru⟩ := r.get hd
  refine ⟨⟨_, u, sq, hu⟩, fun x H2 y => ?_⟩
  obtain ⟨rfl, y⟩ := y
  have e := (y _ sq).symm.trans hu
  cases e
  exact ⟨fun _ _ q => q, ru.mono la⟩
theorem SqT.later {L' : Addr → Prop} {H' : Hp} {v : V} {ds : List D} (h : Rep K L H v (.tuple ds)) (la : Later L H L' H') : ∃ a xs, v = .ref a ∧ SqT K H a xs ∧ SqT K H' a xs ∧ RepL K L H xs ds := by
  cases h with
  | tup h n r => exact ⟨_, _, rfl, SqT.of h, SqT.of (la _ _ h n).1, r⟩
  | ktup h r => exact ⟨_, _, rfl, .inr h, .inr h, r⟩
theorem feeds_tup {a : Addr} {ds : List D} (h : Rep K L H (.ref a) (.tuple ds)) : Feeds K L H (Itt K a) ds := by
  intro L' H' la _ i
  obtain ⟨a', xs, e, _, sq, r⟩ := SqT.later h la
  cases e
  refine ⟨fun d hd => ?_, fun hi => ⟨xs, sq, by rw [r.length]; exact Nat.le_of_eq hi⟩⟩
  obtain ⟨u, hu, ru⟩ := r.get hd
  refine ⟨⟨xs, u, sq, hu⟩, fun x H2 y => ?_⟩
  obtain ⟨rfl, y⟩ := y
  have e := (y xs sq).symm.trans hu
  cases e
  exact ⟨fun _ _ q => q, ru.mono la⟩
def signs (z : Str) : List D := z.cps.toList.map fun c => PyData.str ⟨#[c]⟩
theorem feeds_str {z : Str} (hz : PyData.strOk z = true) : Feeds K L H (Its z) (signs z) := by
  intro L' H' la _ i
  refine ⟨fun d hd => ?_, fun hi => ?_⟩
  · unfold signs at hd
    rw [List.getElem?_map] at hd
    cases e : z.cps.toList[i]? with
    | none => rw [e] at hd; cases hd
    | some c =>
      rw [e] at hd
      cases hd
      have hlt : i < z.cps.size := by
        have := (List.getElem?_eq_some_iff.mp e).1
        simpa using this
      have e' : z.cps[i]? = some c := by rw [← Array.getElem?_toList]; exact e
      refine ⟨hlt, fun x H2 y => ?_⟩
      obtain ⟨rfl, c', hc', rfl⟩ := y
      rw [e'] at hc'
      cases hc'
      exact ⟨fun _ _ q => q, .str _ (strOk_sub (l := [c]) hz fun c' hc' => by rw [List.mem_singleton.mp hc']; exact List.mem_of_getElem? e)⟩
  · unfold signs at hi
    rw [List.length_map] at hi
    show z.cps.size ≤ i
    have hi := Nat.le_of_eq hi
    simpa using hi
def rangeD (lo : Int) (n : Nat) : List D := (List.range n).map fun (k : Nat) => PyData.int (lo + (k : Int))
theorem rangeD_length (lo : Int) (n : Nat) : (rangeD lo n).length = n := by unfold rangeD; simp
theorem feeds_range (lo : Int) (n : Nat) : Feeds K L H (Itr lo n) (rangeD lo n) := by
  intro L' H' la _ i
  refine ⟨fun d hd => ?_, fun hi => by rw [rangeD_length] at hi; exact Nat.le_of_eq hi⟩
  unfold rangeD at hd
  rw [List.getElem?_map] at hd
  cases e : (List.range n)[i]? with
  | none => rw [e] at hd; cases hd
  | some c =>
    rw [e] at hd
    cases hd
    obtain ⟨h1, h2⟩ := List.getElem?_eq_some_iff.mp e
    rw [List.getElem_range] at h2
    subst h2
    rw [List.length_range] at h1
    refine ⟨h1, fun x H2 y => ?_⟩
    obtain ⟨rfl, rfl⟩ := y
    exact ⟨fun _ _ q => q, .int _⟩
/-- pairs -/
def pairD : List D → List D → List D
  | x :: xs, y :: ys => PyData.tuple [x, y] :: pairD xs ys
  | _, _ => []
theorem pairD_get : ∀ {xs ys : List D} {i : Nat} {d : D}, (pairD xs ys)[i]? = some d → ∃ x y, xs[i]? = some x ∧ ys[i]? = some y ∧ d = .tuple [x, y]
  | [], _, _, _, h => by simp [pairD] at h
  | _ :: _, [], _, _, h => by simp [pairD] at h
  | x :: xs, y :: ys, 0, d, h => by simp [pairD] at h; exact ⟨x, y, rfl, rfl, h.symm⟩
  | x :: xs, y :: ys, i + 1, d, h => by
    have h : (pairD xs ys)[i]? = some d := by simpa [pairD] using h
    obtain ⟨a, b, h1, h2, h3⟩ := pairD_get h
    exact ⟨a, b, by simpa using h1, by simpa using h2, h3⟩
theorem pairD_length : ∀ (xs ys : List D), (pairD xs ys).length = min xs.length ys.length
  | [], _ => by simp [pairD]
  | _ :: _, [] => by simp [pairD]
  | x :: xs, y :: ys => by simp [pairD, pairD_length xs ys]
theorem feeds_zipT {a b : Addr} {xs ys : List D} (h : Rep K L H (.ref a) (.tuple xs)) (h' : Rep K L H (.ref b) (.tuple ys)) : Feeds K L H (RZ.ItzT K a b) (pairD xs ys) := by
  intro L' H' la hL i
  obtain ⟨_, us, e, _, sq, r⟩ := SqT.later h la
  cases e
  obtain ⟨_, ws, e, _, sq', r'⟩ := SqT.later h' la
  cases e
  refine ⟨fun d hd => ?_, fun hi => ⟨us, ws, sq, sq', ?_⟩⟩
  · obtain ⟨x, y, h1, h2, rfl⟩ := pairD_get hd
    obtain ⟨u, hu, ru⟩ := r.get h1
    obtain ⟨w, hw, rw'⟩ := r'.get h2
    refine ⟨⟨us, ws, u, w, sq, sq', hu, hw⟩, fun v H2 q => ?_⟩
    obtain ⟨T, x', y', rfl, nT, rfl, f1, f2⟩ := q
    have e1 : x' = u := Option.some.inj ((f1 _ sq).symm.trans hu)
    have e2 : y' = w := Option.some.inj ((f2 _ sq').symm.trans hw)
    rw [← e1] at ru
    rw [← e2] at rw'
    have g : ∀ a o, H' a = some o → upd H' T (.tup [x', y']) a = some o := upd_grow nT
    refine ⟨g, .tup upd_same (fun z => by obtain ⟨o, e⟩ := hL T z; rw [nT] at e; cases e) ?_⟩
    have la2 : Later L' H' L' (upd H' T (.tup [x', y'])) := fun a o h n => ⟨g a o h, n⟩
    exact .cons ((ru.mono la).mono la2) (.cons ((rw'.mono la).mono la2) .nil)
  · rw [pairD_length] at hi
    rw [r.length, r'.length]
    omega
theorem feeds_zipL {a b : Addr} {us ws : List V} {xs ys : List D} (h : H a = some (.lst us)) (n : ¬ L a) (r : RepL K L H us xs) (h' : H b = some (.lst ws)) (n' : ¬ L b) (r' : RepL K L H ws ys) : Feeds K L H (Itz K a b) (pairD xs ys) := by
  intro L' H' la hL i
  have sq : SqL K H' a us := SqL.of (la _ _ h n).1
  have sq' : SqL K H' b ws := SqL.of (la _ _ h' n').1
  refine ⟨fun d hd => ?_, fun hi => ⟨us, ws, sq, sq', ?_⟩⟩
  · obtain ⟨x, y, h1, h2, rfl⟩ := pairD_get hd
    obtain ⟨u, hu, ru⟩ := r.get h1
    obtain ⟨w, hw, rw'⟩ := r'.get h2
    refine ⟨⟨us, ws, u, w, sq, sq', hu, hw⟩, fun v H2 q => ?_⟩
    obtain ⟨T, x', y', rfl, nT, rfl, f1, f2⟩ := q
    have e1 : x' = u := Option.some.inj ((f1 _ sq).symm.trans hu)
    have e2 : y' = w := Option.some.inj ((f2 _ sq').symm.trans hw)
    rw [← e1] at ru
    rw [← e2] at rw'
    have g : ∀ a o, H' a = some o → upd H' T (.tup [x', y']) a = some o := upd_grow nT
    refine ⟨g, .tup upd_same (fun z => by obtain ⟨o, e⟩ := hL T z; rw [nT] at e; cases e) ?_⟩
    have la2 : Later L' H' L' (upd H' T (.tup [x', y'])) := fun a o h n => ⟨g a o h, n⟩
    exact .cons ((ru.mono la).mono la2) (.cons ((rw'.mono la).mono la2) .nil)
  · rw [pairD_length] at hi
    rw [r.length, r'.length]
    omega
def enumD (k : Nat) : List D → List D
  | [] => []
  | x :: xs => PyData.tuple [.int k, x] :: enumD (k + 1) xs
end
section
variable {X : Cx} {tg e e2 : Expr} {pos p : Pos}
def Opd.postD : Opd → Option D → Env → Option D
  | .ex _, x, _ => x
  | .dc _, _, _ => none
  | .sl i, _, r => match r[i]? with | some (some (.d x)) => some x | some (some (.scr (.nums ns))) => some (.list (ns.map PyData.int)) | _ => none
/-- not the script itself -/
def Opd.postR : Opd → Option D → Env → Option D
  | .ex _, x, _ => x
  | .dc _, _, _ => none
  | .sl i, _, r => match r[i]? with | some (some (.d x)) => some x | _ => none
theorem Pend.doneR {K : PySem.W.Frag} {P : Addr → Prop} {sg : St} {o : Opd} {v : V} {x : Option D} {r : Env} {H : Hp} {d : D} (S : Sim K P sg H r) (h : Pend K P sg o v x r H) (e : o.postR x r = some d) : Rep K (Lv P sg r) H v d := by
  cases o with
  | dc kvs => cases e
  | ex m =>
    obtain ⟨d', e', q⟩ := h
    cases e'.symm.trans e
    exact q
  | sl i =>
    have h : sg[i]? = some (some v) := h
    unfold Opd.postR at e
    simp only at e
    split at e
    · rename_i y e1
      cases e
      obtain ⟨u, h1, h2⟩ := S.dat i _ e1
      rw [h] at h1; cases h1
      exact h2
    · cases e
/-- a list, a tuple, a text -/
def iData (o : Opd) : SA := fun r => if o.here r then match o.pre r with
  | some (y, r') => match o.postD y r' with
    | some (.list xs) => some (xs, r')
    | some (.tuple xs) => some (xs, r')
    | some (.str z) => some (signs z, r')
    | _ => none
  | none => none else none
theorem Pend.doneD {K : PySem.W.Frag} {P : Addr → Prop} {sg : St} {o : Opd} {v : V} {x : Option D} {r : Env} {H : Hp} {d : D} (S : Sim K P sg H r) (h : Pend K P sg o v x r H) (e : o.postD x r = some d) :
    Rep K (Lv P sg r) H v d ∨ ∃ (a : Addr) (ns : List Int), v = .ref a ∧ d = .list (ns.map PyData.int) ∧ ScrAt K (Lv P sg r) H a ns := by
  cases o with
  | dc kvs => cases e
  | ex m =>
    obtain ⟨d', e', q⟩ := h
    cases e'.symm.trans e
    exact .inl q
  | sl i =>
    have h : sg[i]? = some (some v) := h
    unfold Opd.postD at e
    simp only at e
    split at e
    · rename_i y e1
      cases e
      obtain ⟨u, h1, h2⟩ := S.dat i _ e1
      rw [h] at h1; cases h1
      exact .inl h2
    · rename_i ns e1
      cases e
      obtain ⟨a, h1, h2⟩ := S.scr i _ e1
      rw [h] at h1; cases h1
      have h2 : ScrAt _ _ _ _ _ := h2
      refine .inr ⟨a, ns, rfl, rfl, h2.map fun o h2 h3 => ⟨h2, fun z => z.elim h3 fun z => ?_⟩⟩
      obtain ⟨j, xs, j1, j2⟩ := z
      obtain ⟨b, vs, k1, k2, _⟩ := S.own j xs j1
      rw [j2] at k1; cases k1
      rw [h2] at k2; cases k2
    · cases e
theorem okI_data {o : Opd} (h : OkO X e o) : OkI X tg e (iData o) := by
  intro P sg H r R ds r' S hm hq
  unfold iData at hm
  split at hm
  · rename_i h0
    split at hm
    · rename_i y r1 e1
      split at hm
      · rename_i xs e2
        cases hm
        refine UI.of (pi_list UE.pe) (h P sg H r _ _ _ S e1 (fun v H1 E1 q1 => ?_) (here_of h0))
        rcases q1.doneD E1.sim e2 with q | ⟨a, ns, rfl, ed, q⟩
        · cases q with | lst h1 n1 r1 => exact ⟨_, rfl, ⟨_, SqL.of h1⟩, hq _ H1 E1 (feeds_list h1 n1 r1)⟩
        · cases ed
          exact ⟨_, rfl, ⟨_, q.sq⟩, hq _ H1 E1 (feeds_scr q)⟩
      · rename_i xs e2
        cases hm
        refine UI.of (pi_tup UE.pe) (h P sg H r _ _ _ S e1 (fun v H1 E1 q1 => ?_) (here_of h0))
        rcases q1.doneD E1.sim e2 with q | ⟨a, ns, rfl, ed, q⟩
        · obtain ⟨a, us, rfl, h1, _⟩ := q.tuple
          exact ⟨_, rfl, ⟨_, h1⟩, hq _ H1 E1 (feeds_tup q)⟩
        · cases ed
      · rename_i z e2
        cases hm
        refine UI.of (pi_str UE.pe) (h P sg H r _ _ _ S e1 (fun v H1 E1 q1 => ?_) (here_of h0))
        rcases q1.doneD E1.sim e2 with q | ⟨a, ns, rfl, ed, q⟩
        · cases q with | str x hx => exact ⟨_, rfl, hq _ H1 E1 (feeds_str hx)⟩
        · cases ed
      · cases hm
    · cases hm
  · cases hm
def iRange1 (m : SE) : SA := fun r => match m r with | some (.int n, r') => if -(2 ^ 62) ≤ n ∧ n < 2 ^ 62 then some (rangeD 0 n.toNat, r') else none | _ => none
theorem okI_range1 {m : SE} (hg : Gl X "range") (hm' : X.mg "range" = none) (h : OkE X e m) (hs : starEach [e] X.env = [(false, eval e X.env)]) : OkI X tg (.Call (.Name "range" p) [e] [] pos) (iRange1 m) := by
  intro P sg H r R ds r' S hm hq
  unfold iRange1 at hm
  split at hm
  · rename_i n r1 e1
    split at hm
    · rename_i hn
      cases hm
      refine UI.of (pi_range1 hg hm' (pa_cons UE.pe pa_nil hs) hs) (h P sg H r _ _ _ S e1 fun v H1 E1 q1 => ?_)
      cases q1
      exact ⟨n, rfl, hn.1, hn.2, hq _ H1 E1 (feeds_range 0 _)⟩
    · cases hm
  · cases hm
def iRange2 (m n : SE) : SA := fun r => match m r with
  | some (.int a, r1) => match n r1 with
    | some (.int b, r2) => if -(2 ^ 62) ≤ a ∧ a < 2 ^ 62 ∧ -(2 ^ 62) ≤ b ∧ b < 2 ^ 62 then some (rangeD a (b - a).toNat, r2) else none
    | _ => none
  | _ => none
def iZip (o o2 : Opd) : SA := fun r => match preAll [o, o2] r with
  | some ([y, z], r') => match o.postR y r', o2.postR z r' with
    | some (.list xs), some (.list ys) => some (pairD xs ys, r')
    | some (.tuple xs), some (.tuple ys) => some (pairD xs ys, r')
    | _, _ => none
  | _ => none
theorem okI_zip {o o2 : Opd} {elts : List Expr} {kk : Nat} {tpos : Pos} (hg : Gl X "zip") (hm' : X.mg "zip" = none) (h : OkO X e o) (h2 : OkO X e2 o2)
    (N : NoStar X e [e2] pos) (N2 : NoStar X e2 [] pos) : OkI X (.Tuple elts kk tpos) (.Call (.Name "zip" p) [e, e2] [] pos) (iZip o o2) := by
  intro P sg H r R ds r' S hm hq
  have ha : OkAO X [e, e2] [o, o2] := okAO_cons h (okAO_cons h2 okAO_nil N2.he) N.he
  unfold iZip at hm
  split at hm
  · rename_i y z r1 e1
    split at hm
    · rename_i xs ys e3 e4
      cases hm
      refine UI.of (RZ.pi_zipA hg hm' UA.pa N.he N.hpl) (ha P sg H r _ _ _ S e1 fun vs H1 E1 q1 => ?_)
      obtain ⟨v, vs', y', ys', rfl, ey, p1, v2, vs2, y2, ys2, rfl, ey2, p2, rfl, _⟩ := q1
      cases ey
      cases ey2
      cases p1.doneR E1.sim e3 with
      | lst h1 n1 r1 =>
        cases p2.doneR E1.sim e4 with
        | lst h1' n1' r1' => exact ⟨_, _, _, _, rfl, .inl ⟨SqL.of h1, SqL.of h1', hq _ H1 E1 (feeds_zipL h1 n1 r1 h1' n1' r1')⟩⟩
    · rename_i xs ys e3 e4
      cases hm
      refine UI.of (RZ.pi_zipA hg hm' UA.pa N.he N.hpl) (ha P sg H r _ _ _ S e1 fun vs H1 E1 q1 => ?_)
      obtain ⟨v, vs', y', ys', rfl, ey, p1, v2, vs2, y2, ys2, rfl, ey2, p2, rfl, _⟩ := q1
      cases ey
      cases ey2
      have q := p1.doneR E1.sim e3
      have q' := p2.doneR E1.sim e4
      obtain ⟨a, us, rfl, h1, _⟩ := q.tuple
      obtain ⟨b, ws, rfl, h1', _⟩ := q'.tuple
      exact ⟨_, _, _, _, rfl, .inr ⟨h1, h1', hq _ H1 E1 (feeds_zipT q q')⟩⟩
    · cases hm
  · cases hm
end
end DL
namespace DL
open PySem PySem.Spec L2
mutual
inductive Tg where
  | nm (i : Nat) | tup (ts : Tgs)
inductive Tgs where
  | nil | cons (t : Tg) (ts : Tgs)
end
mutual
def Tg.ix : Tg → List Nat
  | .nm i => [i]
  | .tup ts => ts.ix
def Tgs.ix : Tgs → List Nat
  | .nil => []
  | .cons t ts => t.ix ++ ts.ix
end
def Tgs.len : Tgs → Nat
  | .nil => 0
  | .cons _ ts => ts.len + 1
mutual
def Tg.bind : Tg → D → Env → Option Env
  | .nm i, x, r => match r[i]? with
    | some (some (.own _)) => none
    | some _ => some (r.set i (some (.d x)))
    | none => none
  | .tup ts, x, r => match x with
    | .tuple xs => if xs.length = ts.len then ts.bind xs r else none
    | _ => none
def Tgs.bind : Tgs → List D → Env → Option Env
  | .nil, [], r => some r
  | .cons t ts, x :: xs, r => match t.bind x r with
    | some r1 => ts.bind xs r1
    | none => none
  | .nil, _ :: _, _ => none
  | .cons _ _, [], _ => none
end
def wipeE (r : Env) : List Nat → Env
  | [] => r
  | v :: vs => (wipeE r vs).set v none
theorem wipeE_length (r : Env) : ∀ vs, (wipeE r vs).length = r.length
  | [] => rfl
  | v :: vs => by unfold wipeE; rw [List.length_set, wipeE_length r vs]
theorem wipeE_out (r : Env) {i : Nat} : ∀ {vs : List Nat}, i ∉ vs → (wipeE r vs)[i]? = r[i]?
  | [], _ => rfl
  | v :: vs, h => by
    unfold wipeE
    rw [List.getElem?_set_ne (fun e => h (by rw [e]; exact List.mem_cons_self)), wipeE_out r fun z => h (List.mem_cons_of_mem _ z)]
theorem wipeE_in (r : Env) {i : Nat} : ∀ {vs : List Nat}, i ∈ vs → ∀ y, (wipeE r vs)[i]? ≠ some (some y)
  | v :: vs, h, y, e => by
    unfold wipeE at e
    by_cases hv : v = i
    · subst hv
      by_cases hl : v < (wipeE r vs).length
      · rw [List.getElem?_set_self hl] at e; cases e
      · rw [List.getElem?_eq_none (by simpa using hl)] at e; cases e
    · rw [List.getElem?_set_ne hv] at e
      rcases List.mem_cons.mp h with z | z
      · exact hv z.symm
      · exact wipeE_in r z y e
theorem wipe_out (r : St) {i : Nat} : ∀ {vs : List Nat}, i ∉ vs → (wipe r vs)[i]? = r[i]?
  | [], _ => rfl
  | v :: vs, h => by
    unfold wipe
    rw [List.getElem?_set_ne (fun e => h (by rw [e]; exact List.mem_cons_self)), wipe_out r fun z => h (List.mem_cons_of_mem _ z)]
theorem wipe_ext {s t : St} (h : s.length = t.length) : ∀ (vs : List Nat), (∀ i, i ∉ vs → s[i]? = t[i]?) → wipe s vs = wipe t vs := by
  have key : ∀ (vs : List Nat) (i : Nat), i ∈ vs → i < s.length → (wipe s vs)[i]? = some none ∧ (wipe t vs)[i]? = some none := by
    intro vs
    induction vs with
    | nil => intro i hi; cases hi
    | cons v vs ih =>
      intro i hi hl
      unfold wipe
      by_cases hv : v = i
      · subst hv
        rw [List.getElem?_set_self (by rw [wipe_length]; exact hl), List.getElem?_set_self (by rw [wipe_length, ← h]; exact hl)]
        exact ⟨rfl, rfl⟩
      · rw [List.getElem?_set_ne hv, List.getElem?_set_ne hv]
        rcases List.mem_cons.mp hi with z | z
        · exact absurd z.symm hv
        · exact ih i z hl
  intro vs hs
  apply List.ext_getElem?
  intro i
  by_cases hi : i ∈ vs
  · by_cases hl : i < s.length
    · rw [(key vs i hi hl).1, (key vs i hi hl).2]
    · rw [List.getElem?_eq_none (by rw [wipe_length]; omega), List.getElem?_eq_none (by rw [wipe_length]; omega)]
  · rw [wipe_out s hi, wipe_out t hi]
    exact hs i hi
section
variable {K : PySem.W.Frag} {P : Addr → Prop} {sg sg' : St} {r r' : Env} {H H' : Hp}
def notOwn (r : Env) (i : Nat) : Bool := match r[i]? with | some (some (.own _)) => false | _ => true
theorem notOwn_of {i : Nat} (h : notOwn r i = true) : ¬ ∃ xs, r[i]? = some (some (Sl.own xs)) := by
  rintro ⟨xs, e⟩
  unfold notOwn at h
  rw [e] at h
  cases h
/-- a slot is given data -/
theorem Sim.setD (S : Sim K P sg H r) {i : Nat} {v : V} {x : D} (hi : i < r.length) (q : Rep K (Lv P sg r) H v x) :
    Sim K P (sg.set i (some v)) H (r.set i (some (.d x))) ∧ (∀ a, OwnA (sg.set i (some v)) (r.set i (some (.d x))) a → OwnA sg r a) := by
  have hi' : i < sg.length := by rw [S.len]; exact hi
  have ow : ∀ a, OwnA (sg.set i (some v)) (r.set i (some (.d x))) a → OwnA sg r a := by
    rintro a ⟨j, xs, h1, h2⟩
    by_cases hj : i = j
    · subst hj
      rw [List.getElem?_set_self hi] at h1; cases h1
    · rw [List.getElem?_set_ne hj] at h1 h2
      exact ⟨j, xs, h1, h2⟩
  have la : Later (Lv P sg r) H (Lv P (sg.set i (some v)) (r.set i (some (.d x)))) H := fun a o h n => ⟨h, fun z => n (z.elim .inl fun z => .inr (ow a z))⟩
  refine ⟨⟨by rw [List.length_set, List.length_set]; exact S.len, fun j y e => ?_, fun j y e => ?_, fun j y e => ?_, S.prot, fun j k xs ys a e1 e2 e3 e4 => ?_, fun a z => S.nP a (ow a z)⟩, ow⟩
  · by_cases hj : i = j
    · subst hj
      rw [List.getElem?_set_self hi] at e; cases e
      exact ⟨v, List.getElem?_set_self hi', q.mono la⟩
    · rw [List.getElem?_set_ne hj] at e
      obtain ⟨u, h1, h2⟩ := S.dat j y e
      exact ⟨u, by rw [List.getElem?_set_ne hj]; exact h1, h2.mono la⟩
  · by_cases hj : i = j
    · subst hj
      rw [List.getElem?_set_self hi] at e; cases e
    · rw [List.getElem?_set_ne hj] at e
      obtain ⟨a, vs, h1, h2, h3⟩ := S.own j y e
      exact ⟨a, vs, by rw [List.getElem?_set_ne hj]; exact h1, h2, h3.mono la⟩
  · by_cases hj : i = j
    · subst hj
      rw [List.getElem?_set_self hi] at e; cases e
    · rw [List.getElem?_set_ne hj] at e
      obtain ⟨a, h1, h2⟩ := S.scr j y e
      exact ⟨a, by rw [List.getElem?_set_ne hj]; exact h1, h2⟩
  · by_cases hj : i = j
    · subst hj
      rw [List.getElem?_set_self hi] at e1; cases e1
    · by_cases hk : i = k
      · subst hk
        rw [List.getElem?_set_self hi] at e2; cases e2
      · rw [List.getElem?_set_ne hj] at e1 e3
        rw [List.getElem?_set_ne hk] at e2 e4
        exact S.sep j k xs ys a e1 e2 e3 e4
/-- behind a target: the slots ix are set -/
structure Bnd (K : PySem.W.Frag) (P : Addr → Prop) (ix : List Nat) (sg : St) (r : Env) (H : Hp) (sg' : St) (r' : Env) : Prop where
  sim : Sim K P sg' H r'
  shape : ∀ i : Nat, (∃ xs, r'[i]? = some (some (Sl.own xs))) ↔ ∃ xs, r[i]? = some (some (Sl.own xs))
  sl : ∀ i, i ∉ ix → sg'[i]? = sg[i]?
  re : ∀ i, i ∉ ix → r'[i]? = r[i]?
  no : ∀ i ∈ ix, notOwn r i = true
  len : sg'.length = sg.length
theorem Bnd.own {ix : List Nat} (B : Bnd K P ix sg r H sg' r') (a : Addr) : OwnA sg' r' a ↔ OwnA sg r a := by
  constructor
  · rintro ⟨i, xs, h1, h2⟩
    obtain ⟨ys, h⟩ := (B.shape i).mp ⟨xs, h1⟩
    have hn : i ∉ ix := fun z => notOwn_of (B.no i z) ⟨ys, h⟩
    exact ⟨i, ys, h, by rw [← B.sl i hn]; exact h2⟩
  · rintro ⟨i, xs, h1, h2⟩
    obtain ⟨ys, h⟩ := (B.shape i).mpr ⟨xs, h1⟩
    have hn : i ∉ ix := fun z => notOwn_of (B.no i z) ⟨xs, h1⟩
    exact ⟨i, ys, h, by rw [B.sl i hn]; exact h2⟩
theorem Bnd.later {ix : List Nat} (B : Bnd K P ix sg r H sg' r') : Later (Lv P sg r) H (Lv P sg' r') H := fun a o h n =>
  ⟨h, fun z => n (z.elim .inl fun z => .inr ((B.own a).mp z))⟩
end
def OkG (X : Cx) (tg : Expr) (t : Tg) : Prop := ∀ (P : Addr → Prop) (sg : St) (H : Hp) (r : Env) (v : V) (x : D) (r' : Env) (Q : St → Hp → Prop), Sim X.K P sg H r → Rep X.K (Lv P sg r) H v x → t.bind x r = some r' →
  (∀ sg', Bnd X.K P t.ix sg r H sg' r' → Q sg' H) → UG X tg v sg H Q
def UGs (X : Cx) (ts : List Expr) : TGs := fun vs sg H Q => ∀ pins s us, Inv X pins sg H s → Vals vs us → wpAny (model X.prog X.w) X.A (assignInOrder ((assignEach ts X.env).map (·.2)) us) (fun _ s' => ∃ sg' H', Inv X pins sg' H' s' ∧ Q sg' H') X.xe s
theorem UGs.pgs {X : Cx} {ts : List Expr} : PGs X ts (UGs X ts) := ⟨fun pins s _ _ _ us _ I r h => h pins s us I r⟩
theorem UGs.of {X : Cx} {ts : List Expr} {t : TGs} {v sg H Q} (h : PGs X ts t) (q : t v sg H Q) : UGs X ts v sg H Q := fun pins s u I r => h.run pins s sg H v u Q I r q
def OkGs (X : Cx) (tg : List Expr) (t : Tgs) : Prop := ∀ (P : Addr → Prop) (sg : St) (H : Hp) (r : Env) (v : List V) (x : List D) (r' : Env) (Q : St → Hp → Prop), Sim X.K P sg H r → RepL X.K (Lv P sg r) H v x → t.bind x r = some r' →
  (∀ sg', Bnd X.K P t.ix sg r H sg' r' → Q sg' H) → UGs X tg v sg H Q
section
variable {X : Cx} {pos : Pos}
theorem okG_nm {i : Nat} {x : Str} (hN : X.N.Nodup) (hi : X.N[i]? = some x) (hx : Loc X.env.scope x) (hf : X.fn x = true ∨ X.env.scope.names.lookup x = some .local) : OkG X (.Name x pos) (.nm i) := by
  intro P sg H r v d r' Q S q hb hq
  unfold Tg.bind at hb
  split at hb
  · cases hb
  · rename_i y hne e
    cases hb
    have hi' : i < r.length := (List.getElem?_eq_some_iff.mp e).1
    obtain ⟨S', ow⟩ := S.setD hi' q
    have nI : ¬ ∃ xs, r[i]? = some (some (Sl.own xs)) := by
      rintro ⟨xs, z⟩
      rw [e] at z
      cases z
      exact hne _ rfl
    refine UG.of (pg_name hN hi hx hf) (hq _ ⟨S', fun j => ?_, fun j hj => ?_, fun j hj => ?_, fun j hj => ?_, List.length_set ..⟩)
    · by_cases hj : i = j
      · subst hj
        rw [List.getElem?_set_self hi']
        constructor
        · rintro ⟨xs, z⟩; cases z
        · exact fun z => absurd z nI
      · rw [List.getElem?_set_ne hj]
    · exact List.getElem?_set_ne fun z => hj (by unfold Tg.ix; rw [z]; exact List.mem_singleton.mpr rfl)
    · exact List.getElem?_set_ne fun z => hj (by unfold Tg.ix; rw [z]; exact List.mem_singleton.mpr rfl)
    · unfold Tg.ix at hj
      rw [List.mem_singleton.mp hj]
      unfold notOwn
      split
      · rename_i xs z
        exact absurd ⟨xs, z⟩ nI
      · rfl
  · cases hb
theorem okGs_nil : OkGs X [] .nil := by
  intro P sg H r v d r' Q S q hb hq
  cases q with
  | nil =>
    unfold Tgs.bind at hb
    cases hb
    exact UGs.of pgs_nil ⟨rfl, hq sg ⟨S, fun _ => Iff.rfl, fun _ _ => rfl, fun _ _ => rfl, (fun _ h => nomatch h), rfl⟩⟩
  | cons => cases hb
theorem okGs_cons {e : Expr} {es : List Expr} {t : Tg} {ts : Tgs} (h1 : OkG X e t) (h2 : OkGs X es ts) (hs : (assignEach (e :: es) X.env).map (·.2) = assign e X.env :: (assignEach es X.env).map (·.2)) : OkGs X (e :: es) (.cons t ts) := by
  intro P sg H r v d r' Q S q hb hq
  cases q with
  | nil => cases hb
  | cons q1 q2 =>
    unfold Tgs.bind at hb
    split at hb
    · rename_i r1 e1
      refine UGs.of (pgs_cons UG.pg UGs.pgs hs) ⟨_, _, rfl, ?_⟩
      refine h1 P sg H r _ _ r1 _ S q1 e1 fun sg1 B1 => ?_
      refine h2 P sg1 H r1 _ _ r' _ B1.sim (q2.mono B1.later) hb fun sg2 B2 => hq sg2 ?_
      refine ⟨B2.sim, fun i => (B2.shape i).trans (B1.shape i), fun i hi => ?_, fun i hi => ?_, fun i hi => ?_, B2.len.trans B1.len⟩
      · unfold Tgs.ix at hi
        rw [List.mem_append, not_or] at hi
        rw [B2.sl i hi.2, B1.sl i hi.1]
      · unfold Tgs.ix at hi
        rw [List.mem_append, not_or] at hi
        rw [B2.re i hi.2, B1.re i hi.1]
      · unfold Tgs.ix at hi
        rcases List.mem_append.mp hi with z | z
        · exact B1.no i z
        · have n2 := notOwn_of (B2.no i z)
          unfold notOwn
          split
          · rename_i xs z'
            exact absurd ((B1.shape i).mpr ⟨xs, z'⟩) n2
          · rfl
    · cases hb
theorem okG_tup {es : List Expr} {k : Nat} {ts : Tgs} (hc : X.calm = true) (h : OkGs X es ts) (hn : (assignEach es X.env).length = ts.len) (hst : (assignEach es X.env).findIdx? (·.1) = none) : OkG X (.Tuple es k pos) (.tup ts) := by
  intro P sg H r v d r' Q S q hb hq
  unfold Tg.bind at hb
  split at hb
  · rename_i xs
    split at hb
    · rename_i hl
      obtain ⟨a, us, rfl, h1, r1⟩ := q.tuple
      exact UG.of (pg_tup hc UGs.pgs hn hst) ⟨a, us, rfl, h1, by rw [r1.length]; exact hl, h P sg H r us xs r' Q S r1 hb hq⟩
    · cases hb
  · cases hb
end
section
variable {K : PySem.W.Frag} {P : Addr → Prop} {sg sg' : St} {r r' : Env} {H H' : Hp}
theorem Sim.wipe (S : Sim K P sg H r) {vs : List Nat} (no : ∀ i ∈ vs, notOwn r i = true) : Sim K P (L2.wipe sg vs) H (wipeE r vs) ∧ ∀ a, OwnA (L2.wipe sg vs) (wipeE r vs) a ↔ OwnA sg r a := by
  have key : ∀ {i : Nat} {y : Sl}, (wipeE r vs)[i]? = some (some y) → i ∉ vs ∧ r[i]? = some (some y) ∧ (L2.wipe sg vs)[i]? = sg[i]? := fun {i y} e => by
    have hn : i ∉ vs := fun z => wipeE_in r z y e
    rw [wipeE_out r hn] at e
    exact ⟨hn, e, wipe_out sg hn⟩
  have ow : ∀ a, OwnA (L2.wipe sg vs) (wipeE r vs) a ↔ OwnA sg r a := fun a => by
    constructor
    · rintro ⟨i, xs, h1, h2⟩
      obtain ⟨_, e1, e2⟩ := key h1
      exact ⟨i, xs, e1, by rw [← e2]; exact h2⟩
    · rintro ⟨i, xs, h1, h2⟩
      have hn : i ∉ vs := fun z => notOwn_of (no i z) ⟨xs, h1⟩
      exact ⟨i, xs, by rw [wipeE_out r hn]; exact h1, by rw [wipe_out sg hn]; exact h2⟩
  have la : Later (Lv P sg r) H (Lv P (L2.wipe sg vs) (wipeE r vs)) H := fun a o h n => ⟨h, fun z => n (z.elim .inl fun z => .inr ((ow a).mp z))⟩
  refine ⟨⟨by rw [wipe_length, wipeE_length]; exact S.len, fun i x e => ?_, fun i x e => ?_, fun i x e => ?_, S.prot, fun i j xs ys a e1 e2 e3 e4 => ?_, fun a z => S.nP a ((ow a).mp z)⟩, ow⟩
  · obtain ⟨_, e1, e2⟩ := key e
    obtain ⟨v, h1, h2⟩ := S.dat i x e1
    exact ⟨v, by rw [e2]; exact h1, h2.mono la⟩
  · obtain ⟨_, e1, e2⟩ := key e
    obtain ⟨a, vs, h1, h2, h3⟩ := S.own i x e1
    exact ⟨a, vs, by rw [e2]; exact h1, h2, h3.mono la⟩
  · obtain ⟨_, e1, e2⟩ := key e
    obtain ⟨a, h1, h2⟩ := S.scr i x e1
    exact ⟨a, by rw [e2]; exact h1, h2⟩
  · obtain ⟨_, f1, f2⟩ := key e1
    obtain ⟨_, g1, g2⟩ := key e2
    exact S.sep i j xs ys a f1 g1 (by rw [← f2]; exact e3) (by rw [← g2]; exact e4)
/-- what is protected may be changed by its owner -/
theorem Sim.updP (S : Sim K P sg H r) {p : Addr} (hp : P p) (o : HO) : Sim K P sg (upd H p o) r ∧ Later (Lv P sg r) H (Lv P sg r) (upd H p o) := by
  have la : Later (Lv P sg r) H (Lv P sg r) (upd H p o) := fun a u h n => ⟨by rw [upd_ne (fun z => n (.inl (by rw [z]; exact hp)))]; exact h, n⟩
  refine ⟨⟨S.len, fun i x e => ?_, fun i x e => ?_, fun i x e => ?_, fun a h => ?_, S.sep, S.nP⟩, la⟩
  · obtain ⟨v, h1, h2⟩ := S.dat i x e
    exact ⟨v, h1, h2.mono la⟩
  · obtain ⟨a, vs, h1, h2, h3⟩ := S.own i x e
    refine ⟨a, vs, h1, ?_, h3.mono la⟩
    rw [upd_ne fun z => S.nP a ⟨i, x, e, h1⟩ (by rw [z]; exact hp)]
    exact h2
  · obtain ⟨a, h1, h2⟩ := S.scr i x e
    exact ⟨a, h1, h2.map fun u h2 h3 => ⟨by rw [upd_ne fun z => h3 (by rw [z]; exact hp)]; exact h2, h3⟩⟩
  · by_cases z : a = p
    · rw [z, upd_same]; exact ⟨_, rfl⟩
    · rw [upd_ne z]; exact S.prot a h
end
def restore : List Nat → Env → Env → Env
  | [], _, rf => rf
  | v :: vs, r1, rf => (restore vs r1 rf).set v ((r1[v]?).getD none)
theorem restore_length (r1 rf : Env) : ∀ vs, (restore vs r1 rf).length = rf.length
  | [] => rfl
  | v :: vs => by unfold restore; rw [List.length_set, restore_length r1 rf vs]
theorem restore_out (r1 rf : Env) {i : Nat} : ∀ {vs : List Nat}, i ∉ vs → (restore vs r1 rf)[i]? = rf[i]?
  | [], _ => rfl
  | v :: vs, h => by
    unfold restore
    rw [List.getElem?_set_ne (fun e => h (by rw [e]; exact List.mem_cons_self)), restore_out r1 rf fun z => h (List.mem_cons_of_mem _ z)]
theorem restore_in (r1 rf : Env) (hl : rf.length = r1.length) {i : Nat} (hi : i < r1.length) : ∀ {vs : List Nat}, i ∈ vs → (restore vs r1 rf)[i]? = r1[i]?
  | v :: vs, h => by
    unfold restore
    by_cases hv : v = i
    · subst hv
      rw [List.getElem?_set_self (by rw [restore_length, hl]; exact hi), List.getElem?_eq_getElem hi]
      all_goals rfl
    · rw [List.getElem?_set_ne hv]
      rcases List.mem_cons.mp h with z | z
      · exact absurd z.symm hv
      · exact restore_in r1 rf hl hi z
def lcLoop (t : Tg) (c : ST) (m : SE) (vs : List Nat) : List D → Env → Option (List D × Env)
  | [], r => some ([], r)
  | d :: ds, r => match t.bind d r with
    | some r1 => match c r1 with
      | some (true, r2) => match m r2 with
        | some (y, r3) => match lcLoop t c m vs ds (wipeE r3 vs) with
          | some (ys, rf) => some (y :: ys, rf)
          | none => none
        | none => none
      | some (false, r2) => lcLoop t c m vs ds (wipeE r2 vs)
      | none => none
    | none => none
def nLc (src : SA) (t : Tg) (c : ST) (m : SE) : SA := fun r => match src r with
  | some (ds, r1) => if decide (ds.length ≤ sizeLine) && t.ix.all (notOwn r1) then match lcLoop t c m t.ix ds (wipeE r1 t.ix) with
    | some (ys, rf) => some (ys, restore t.ix r1 rf)
    | none => none else none
  | none => none
section
variable {X : Cx}
abbrev Cx.inBlk (X : Cx) (scope : Scope) (s : Shared) (H : Hp) (C : Addr) (cl : List (Str × Addr)) (fp : List Addr) : Cx := X.blk s H scope (compEnvC scope cl C X.env) fp
def UGb (X : Cx) (scope : Scope) (tg : Expr) : TG := fun v sg H Q => ∀ s0 H0 C cl fp, UG (Cx.inBlk X scope s0 H0 C cl fp) tg v sg H Q
def UEb (X : Cx) (scope : Scope) (e : Expr) : TE := fun sg H Q => ∀ s0 H0 C cl fp, UE (Cx.inBlk X scope s0 H0 C cl fp) e sg H Q
def UTs (X : Cx) (ifs : List Expr) : TT := fun sg H Q => ∀ pins s, Inv X pins sg H s →
  wpAny (model X.prog X.w) X.A (forIn ifs true fun c r => if r = true then do let ok ← isTrue c X.env (eval c X.env); pure (ForInStep.yield ok) else pure (ForInStep.yield r)) (TP X pins sg Q) X.xe s
theorem UTs.of {X : Cx} {ifs : List Expr} {t : TT} {sg H Q} (h : PTs X ifs t) (q : t sg H Q) : UTs X ifs sg H Q := fun pins s I => h.run pins s sg H Q I q
def OkTs (X : Cx) (ifs : List Expr) (m : ST) : Prop := ∀ (P : Addr → Prop) (sg : St) (H : Hp) (r : Env) (Q : Bool → Hp → Prop) (b : Bool) (r' : Env), Sim X.K P sg H r → m r = some (b, r') →
  (∀ H', Ext X.K P sg r H r' H' → Q b H') → UTs X ifs sg H Q
def tTrue : ST := fun r => some (true, r)
theorem okTs_nil : OkTs X [] tTrue := by
  intro P sg H r Q b r' S hm hq
  cases hm
  exact UTs.of pts_nil (hq H (Ext.refl S))
theorem okTs_one {c : Expr} {m : ST} (h : OkT X c m) : OkTs X [c] m := fun P sg H r Q b r' S hm hq => UTs.of (pts_one UT.pt) (h P sg H r Q b r' S hm hq)
def UTb (X : Cx) (scope : Scope) (ifs : List Expr) : TT := fun sg H Q => ∀ s0 H0 C cl fp, UTs (Cx.inBlk X scope s0 H0 C cl fp) ifs sg H Q
end
end DL
namespace DL
open PySem PySem.Spec L2
/-- the state of a comprehension between two turns -/
structure LcI (K : PySem.W.Frag) (P : Addr → Prop) (vs : List Nat) (sg : St) (r1 : Env) (H1 : Hp) (D : Addr) (ri : Env) (H : Hp) (accV : List V) (acc : List DL.D) : Prop where
  sim : Sim K (With P D) (wipe sg vs) H ri
  shape : ∀ i : Nat, (∃ xs, ri[i]? = some (some (Sl.own xs))) ↔ ∃ xs, (wipeE r1 vs)[i]? = some (some (Sl.own xs))
  keep : ∀ a o, H1 a = some o → ¬ OwnA sg r1 a → H a = some o
  here : H D = some (.lst accV)
  rep : RepL K (Lv (With P D) (wipe sg vs) ri) H accV acc
section
variable {K : PySem.W.Frag} {P : Addr → Prop} {vs : List Nat} {sg : St} {r1 ri : Env} {H1 H : Hp} {D : Addr} {accV : List V} {acc : List DL.D}
theorem Sim.less {P' : Addr → Prop} {r : Env} (S : Sim K P sg H r) (h : ∀ a, P' a → P a) : Sim K P' sg H r := by
  have la : Later (Lv P sg r) H (Lv P' sg r) H := fun a o e n => ⟨e, fun z => n (z.elim (fun z => .inl (h a z)) .inr)⟩
  refine ⟨S.len, fun i x e => ?_, fun i x e => ?_, fun i x e => ?_, fun a z => S.prot a (h a z), S.sep, fun a z z' => S.nP a z (h a z')⟩
  · obtain ⟨v, h1, h2⟩ := S.dat i x e
    exact ⟨v, h1, h2.mono la⟩
  · obtain ⟨a, vs, h1, h2, h3⟩ := S.own i x e
    exact ⟨a, vs, h1, h2, h3.mono la⟩
  · obtain ⟨a, h1, h2⟩ := S.scr i x e
    exact ⟨a, h1, h2.map fun o h2 h3 => ⟨h2, fun z => h3 (h a z)⟩⟩
theorem notOwn_iff {r : Env} {i : Nat} (h : ¬ ∃ xs, r[i]? = some (some (Sl.own xs))) : notOwn r i = true := by
  unfold notOwn
  split
  · rename_i xs z; exact absurd ⟨xs, z⟩ h
  · rfl
theorem LcI.no (I : LcI K P vs sg r1 H1 D ri H accV acc) : ∀ i ∈ vs, notOwn ri i = true := fun i hi => notOwn_iff fun z => by
  obtain ⟨xs, e⟩ := (I.shape i).mp z
  exact wipeE_in r1 hi _ e
theorem LcI.own (S1 : Sim K P sg H1 r1) (no : ∀ i ∈ vs, notOwn r1 i = true) (I : LcI K P vs sg r1 H1 D ri H accV acc) (a : Addr) : OwnA (wipe sg vs) ri a ↔ OwnA sg r1 a := by
  refine Iff.trans ?_ ((S1.wipe no).2 a)
  constructor
  · rintro ⟨i, xs, h1, h2⟩
    obtain ⟨ys, e⟩ := (I.shape i).mp ⟨xs, h1⟩
    exact ⟨i, ys, e, h2⟩
  · rintro ⟨i, xs, h1, h2⟩
    obtain ⟨ys, e⟩ := (I.shape i).mpr ⟨xs, h1⟩
    exact ⟨i, ys, e, h2⟩
theorem LcI.later (S1 : Sim K P sg H1 r1) (no : ∀ i ∈ vs, notOwn r1 i = true) (hD : H1 D = none) (I : LcI K P vs sg r1 H1 D ri H accV acc) : Later (Lv P sg r1) H1 (Lv (With P D) (wipe sg vs) ri) H := fun a o h n =>
  ⟨I.keep a o h fun z => n (.inr z), fun z => z.elim (fun z => z.elim (fun z => n (.inl z)) fun z => ne_of_none h hD z) fun z => n (.inr ((I.own S1 no a).mp z))⟩
theorem LcI.start (S1 : Sim K P sg H1 r1) (no : ∀ i ∈ vs, notOwn r1 i = true) (hD : H1 D = none) : LcI K P vs sg r1 H1 D (wipeE r1 vs) (upd H1 D (.lst [])) [] [] :=
  ⟨((S1.wipe no).1.guard hD _).1, fun _ => Iff.rfl, fun a o h _ => by rw [upd_ne (ne_of_none h hD)]; exact h, upd_same, .nil⟩
/-- .. at the end -/
theorem LcI.fin (S1 : Sim K P sg H1 r1) (no : ∀ i ∈ vs, notOwn r1 i = true) (hD : H1 D = none) (I : LcI K P vs sg r1 H1 D ri H accV acc) :
    NewL K P sg r1 H1 (restore vs r1 ri) H D accV acc := by
  have hl : ri.length = r1.length := by
    have e1 := I.sim.len
    rw [wipe_length] at e1
    rw [← e1, S1.len]
  have sh : ∀ i : Nat, (∃ xs, (restore vs r1 ri)[i]? = some (some (Sl.own xs))) ↔ ∃ xs, r1[i]? = some (some (Sl.own xs)) := fun i => by
    by_cases hi : i ∈ vs
    · have n1 := notOwn_of (no i hi)
      refine ⟨fun ⟨xs, e⟩ => ?_, fun z => absurd z n1⟩
      by_cases hlt : i < r1.length
      · rw [restore_in r1 ri hl hlt hi] at e; exact ⟨xs, e⟩
      · rw [List.getElem?_eq_none (by rw [restore_length]; omega)] at e; cases e
    · rw [restore_out r1 ri hi, I.shape i, wipeE_out r1 hi]
  have ow : ∀ a, OwnA sg (restore vs r1 ri) a ↔ OwnA sg r1 a := fun a => by
    constructor
    · rintro ⟨i, xs, h1, h2⟩
      obtain ⟨ys, e⟩ := (sh i).mp ⟨xs, h1⟩
      exact ⟨i, ys, e, h2⟩
    · rintro ⟨i, xs, h1, h2⟩
      obtain ⟨ys, e⟩ := (sh i).mpr ⟨xs, h1⟩
      exact ⟨i, ys, e, h2⟩
  have la := I.later S1 no hD
  -- from the block's view back to the def's
  have lb : Later (Lv (With P D) (wipe sg vs) ri) H (Lv (With P D) sg (restore vs r1 ri)) H := fun a o h n =>
    ⟨h, fun z => n (z.elim .inl fun z => .inr ((I.own S1 no a).mpr ((ow a).mp z)))⟩
  have SD : Sim K (With P D) sg H (restore vs r1 ri) := by
    refine ⟨by rw [restore_length, hl]; exact S1.len, fun i x e => ?_, fun i x e => ?_, fun i x e => ?_, I.sim.prot, fun i j xs ys a e1 e2 e3 e4 => ?_, fun a z => I.sim.nP a ((I.own S1 no a).mpr ((ow a).mp z))⟩
    · by_cases hi : i ∈ vs
      · have hlt : i < r1.length := by
          have := (List.getElem?_eq_some_iff.mp e).1
          rw [restore_length, hl] at this; exact this
        rw [restore_in r1 ri hl hlt hi] at e
        obtain ⟨v, h1, h2⟩ := S1.dat i x e
        exact ⟨v, h1, (h2.mono la).mono lb⟩
      · rw [restore_out r1 ri hi] at e
        obtain ⟨v, h1, h2⟩ := I.sim.dat i x e
        exact ⟨v, by rw [← wipe_out sg hi]; exact h1, h2.mono lb⟩
    · by_cases hi : i ∈ vs
      · obtain ⟨ys, e'⟩ := (sh i).mp ⟨x, e⟩
        exact absurd ⟨ys, e'⟩ (notOwn_of (no i hi))
      · rw [restore_out r1 ri hi] at e
        obtain ⟨a, us, h1, h2, h3⟩ := I.sim.own i x e
        exact ⟨a, us, by rw [← wipe_out sg hi]; exact h1, h2, h3.mono lb⟩
    · by_cases hi : i ∈ vs
      · have hlt : i < r1.length := by
          have := (List.getElem?_eq_some_iff.mp e).1
          rw [restore_length, hl] at this; exact this
        rw [restore_in r1 ri hl hlt hi] at e
        obtain ⟨a, h1, h2⟩ := S1.scr i x e
        refine ⟨a, h1, h2.map fun o h2 h3 => ⟨I.keep a _ h2 fun z => ?_, fun z => z.elim h3 (ne_of_none h2 hD)⟩⟩
        obtain ⟨j, xs, j1, j2⟩ := z
        obtain ⟨b, us, k1, k2, _⟩ := S1.own j xs j1
        rw [j2] at k1; cases k1
        rw [h2] at k2; exact o.no k2
      · rw [restore_out r1 ri hi] at e
        obtain ⟨a, h1, h2⟩ := I.sim.scr i x e
        exact ⟨a, by rw [← wipe_out sg hi]; exact h1, h2⟩
    · obtain ⟨xs', f1⟩ := (sh i).mp ⟨xs, e1⟩
      obtain ⟨ys', f2⟩ := (sh j).mp ⟨ys, e2⟩
      exact S1.sep i j xs' ys' a f1 f2 e3 e4
  exact ⟨⟨SD.less fun a h => .inl h, sh, I.keep⟩, SD, hD, I.here, I.rep.mono lb⟩
end
section
variable {X : Cx}
theorem okNT_lc {elt tg iter : Expr} {ifs : List Expr} {scope : Scope} {src : SA} {t : Tg} {c : ST} {m : SE} (hi : OkI X tg iter src)
    (hg : ∀ s0 H0 C cl fp, OkG (Cx.inBlk X scope s0 H0 C cl fp) tg t) (ht : ∀ s0 H0 C cl fp, OkTs (Cx.inBlk X scope s0 H0 C cl fp) ifs c) (he : ∀ s0 H0 C cl fp, OkE (Cx.inBlk X scope s0 H0 C cl fp) elt m)
    : OkNT X.K (tLc (UI X tg iter) (UGb X scope tg) (UTb X scope ifs) (UEb X scope elt) t.ix) (nLc src t c m) := by
  intro P sg H r Q ys r' S hm hq
  unfold nLc at hm
  split at hm
  · rename_i xs r1 e1
    split at hm
    · rename_i hcond
      split at hm
      · rename_i ys0 rf eL
        cases hm
        simp only [Bool.and_eq_true, decide_eq_true_eq, List.all_eq_true] at hcond
        obtain ⟨hz, no⟩ := hcond
        refine hi P sg H r _ xs r1 S e1 fun J H1 E1 fd => fun D hD => ?_
        have S1 := E1.sim
        refine ⟨fun i k H' => k = xs.length - i ∧ i ≤ xs.length ∧ ∃ ri accV acc ys', LcI X.K P t.ix sg r1 H1 D ri H' accV acc ∧ lcLoop t c m t.ix (xs.drop i) ri = some (ys', rf) ∧ acc ++ ys' = ys ∧ acc.length ≤ i,
          ⟨xs.length, by omega, Nat.zero_le _, wipeE r1 t.ix, [], [], ys, LcI.start S1 no hD, by rw [List.drop_zero]; exact eL, rfl, Nat.le_refl _⟩, ?_⟩
        rintro i k H' ⟨rfl, hik, ri, accV, acc, ys', I, eI, eacc, hacc⟩
        have la := I.later S1 no hD
        have fi := fd _ H' la I.sim.lv i
        by_cases hlt : i < xs.length
        · have hd : xs[i]? = some xs[i] := List.getElem?_eq_getElem hlt
          obtain ⟨hgo, hy⟩ := fi.1 _ hd
          rw [List.drop_eq_getElem_cons hlt] at eI
          unfold lcLoop at eI
          split at eI
          · rename_i rb eb
            refine .inr ⟨hgo, fun H'' => (∃ ri accV acc ys', LcI X.K P t.ix sg r1 H1 D ri H'' accV acc ∧ lcLoop t c m t.ix (xs.drop (i + 1)) ri = some (ys', rf) ∧ acc ++ ys' = ys ∧ acc.length ≤ i + 1),
              fun H'' h => ⟨xs.length - (i + 1), by omega, rfl, hlt, h⟩, fun x H2 y => ?_⟩
            obtain ⟨g2, rx⟩ := hy x H2 y
            have E2 := I.sim.grow g2
            intro s0 H0 C cl fp
            refine hg s0 H0 C cl fp _ _ H2 ri x _ rb _ E2.sim rx eb fun sg2 B => ⟨?_, ?_⟩
            · refine wipe_ext ?_ t.ix fun j hj => ?_
              · rw [B.len, wipe_length]
              · rw [B.sl j hj, wipe_out sg hj]
            have hw : wipe sg2 t.ix = wipe sg t.ix := by
              refine wipe_ext ?_ t.ix fun j hj => ?_
              · rw [B.len, wipe_length]
              · rw [B.sl j hj, wipe_out sg hj]
            have hD2 : H2 D = some (.lst accV) := g2 _ _ I.here
            have nD : ∀ rr, OwnA sg2 rr D → Sim X.K (With P D) sg2 H2 rr → False := fun rr z s => s.nP D z (.inr rfl)
            have nDb : ¬ OwnA sg2 rb D := fun z => nD rb z B.sim
            intro s0' H0' C' cl' fp'
            split at eI
            · rename_i rc ec
              split at eI
              · rename_i y0 rd ed
                split at eI
                · rename_i ys2 rf2 eR
                  cases eI
                  refine ht s0' H0' C' cl' fp' _ sg2 H2 rb _ _ rc B.sim ec fun H3 E3 => ?_
                  rw [if_pos rfl]
                  intro s1 H1' C1 cl1 fp1
                  refine he s1 H1' C1 cl1 fp1 _ sg2 H3 rc _ _ rd E3.sim ed fun v H4 E4 q4 => ?_
                  have E34 := E3.trans E4
                  have hD4 : H4 D = some (.lst accV) := E34.keep D _ hD2 nDb
                  refine ⟨accV, hD4, ?_, ?_⟩
                  · rw [I.rep.length]
                    exact Nat.lt_of_le_of_lt hacc (Nat.lt_of_lt_of_le hlt hz)
                  have shd : ∀ j : Nat, (∃ xs, rd[j]? = some (some (Sl.own xs))) ↔ ∃ xs, (wipeE r1 t.ix)[j]? = some (some (Sl.own xs)) := fun j => (E34.shape j).trans ((B.shape j).trans (I.shape j))
                  have nod : ∀ j ∈ t.ix, notOwn rd j = true := fun j hj => notOwn_iff fun z => by
                    obtain ⟨zs, e⟩ := (shd j).mp z
                    exact wipeE_in r1 hj _ e
                  obtain ⟨Sw, oww⟩ := E4.sim.wipe nod
                  rw [hw] at Sw oww
                  obtain ⟨Su, lu⟩ := Sw.updP (p := D) (.inr rfl) (.lst (accV ++ [v]))
                  have lw : Later (Lv (With P D) sg2 rd) H4 (Lv (With P D) (wipe sg t.ix) (wipeE rd t.ix)) H4 := fun a o h n => ⟨h, fun z => n (z.elim .inl fun z => .inr ((oww a).mp z))⟩
                  have ra : RepL X.K (Lv (With P D) sg2 rd) H4 accV acc := ((I.rep.mono E2.later).mono B.later).mono E34.later
                  refine ⟨wipeE rd t.ix, accV ++ [v], acc ++ [y0], ys2, ⟨Su, fun j => ?_, fun a o h n => ?_, upd_same, (((ra.append (.cons q4 .nil)).mono lw).mono lu)⟩, eR, ?_, ?_⟩
                  · by_cases hj : j ∈ t.ix
                    · constructor
                      · rintro ⟨zs, e⟩; exact absurd e (wipeE_in rd hj _)
                      · rintro ⟨zs, e⟩; exact absurd e (wipeE_in r1 hj _)
                    · rw [wipeE_out rd hj, shd j]
                  · have aD : a ≠ D := ne_of_none h hD
                    rw [upd_ne aD]
                    refine E34.keep a o (g2 a o (I.keep a o h n)) fun z => n ?_
                    exact (I.own S1 no a).mp ((B.own a).mp z)
                  · rw [List.append_assoc]; exact eacc
                  · rw [List.length_append, List.length_singleton]; omega
                · cases eI
              · cases eI
            · rename_i rc ec
              refine ht s0' H0' C' cl' fp' _ sg2 H2 rb _ _ rc B.sim ec fun H3 E3 => ?_
              rw [if_neg Bool.false_ne_true]
              have hD3 : H3 D = some (.lst accV) := E3.keep D _ hD2 nDb
              have shd : ∀ j : Nat, (∃ xs, rc[j]? = some (some (Sl.own xs))) ↔ ∃ xs, (wipeE r1 t.ix)[j]? = some (some (Sl.own xs)) := fun j => (E3.shape j).trans ((B.shape j).trans (I.shape j))
              have nod : ∀ j ∈ t.ix, notOwn rc j = true := fun j hj => notOwn_iff fun z => by
                obtain ⟨zs, e⟩ := (shd j).mp z
                exact wipeE_in r1 hj _ e
              obtain ⟨Sw, oww⟩ := E3.sim.wipe nod
              rw [hw] at Sw oww
              have lw : Later (Lv (With P D) sg2 rc) H3 (Lv (With P D) (wipe sg t.ix) (wipeE rc t.ix)) H3 := fun a o h n => ⟨h, fun z => n (z.elim .inl fun z => .inr ((oww a).mp z))⟩
              have ra : RepL X.K (Lv (With P D) sg2 rc) H3 accV acc := ((I.rep.mono E2.later).mono B.later).mono E3.later
              refine ⟨wipeE rc t.ix, accV, acc, ys', ⟨Sw, fun j => ?_, fun a o h n => ?_, hD3, ra.mono lw⟩, eI, eacc, by omega⟩
              · by_cases hj : j ∈ t.ix
                · constructor
                  · rintro ⟨zs, e⟩; exact absurd e (wipeE_in rc hj _)
                  · rintro ⟨zs, e⟩; exact absurd e (wipeE_in r1 hj _)
                · rw [wipeE_out rc hj, shd j]
              · refine E3.keep a o (g2 a o (I.keep a o h n)) fun z => n ?_
                exact (I.own S1 no a).mp ((B.own a).mp z)
            · cases eI
          · cases eI
        · have ei : i = xs.length := by omega
          subst ei
          rw [List.drop_length] at eI
          cases eI
          rw [List.append_nil] at eacc
          subst eacc
          have NF := I.fin S1 no hD
          exact .inl ⟨fi.2 rfl, hq D accV H' ⟨E1.trans NF.ext, NF.sim, E1.none hD, NF.here, NF.rep⟩⟩
      · cases hm
    · cases hm
  · cases hm
theorem pgB {scope : Scope} {tg : Expr} (s0 : Shared) (H0 : Hp) (C : Addr) (cl : List (Str × Addr)) (fp : List Addr) : PG (Cx.inBlk X scope s0 H0 C cl fp) tg (UGb X scope tg) := ⟨fun pins s _ _ _ u _ I r0 h => h s0 H0 C cl fp pins s u I r0⟩
theorem ptB {scope : Scope} {ifs : List Expr} (s0 : Shared) (H0 : Hp) (C : Addr) (cl : List (Str × Addr)) (fp : List Addr) : PTs (Cx.inBlk X scope s0 H0 C cl fp) ifs (UTb X scope ifs) := ⟨fun pins s _ _ _ I h => h s0 H0 C cl fp pins s I⟩
theorem peB {scope : Scope} {e : Expr} (s0 : Shared) (H0 : Hp) (C : Addr) (cl : List (Str × Addr)) (fp : List Addr) : PE (Cx.inBlk X scope s0 H0 C cl fp) e (UEb X scope e) := ⟨fun pins s _ _ _ I h => h s0 H0 C cl fp pins s I⟩
theorem okN_lc {elt tg iter : Expr} {ifs : List Expr} {scope : Scope} {own : List (Str × Nat)} {pos : Pos} {src : SA} {t : Tg} {c : ST} {m : SE} (hc : X.calm = true) (hN : X.N.Nodup) (hi : OkI X tg iter src) (ok : BlkOk X.N X.env.scope scope own) (hix : own.map (·.2) = t.ix)
    (hg : ∀ s0 H0 C cl fp, OkG (Cx.inBlk X scope s0 H0 C cl fp) tg t) (ht : ∀ s0 H0 C cl fp, OkTs (Cx.inBlk X scope s0 H0 C cl fp) ifs c) (he : ∀ s0 H0 C cl fp, OkE (Cx.inBlk X scope s0 H0 C cl fp) elt m)
    (hs : ∀ x, foldedSetIterable iter X.env x = pure x) : OkN X (.ListComp elt [⟨tg, iter, ifs, 0⟩] scope pos) (nLc src t c m) := by
  intro P sg H r Q ys r' S hm hq
  refine UE.of (pe_lc hc hN UI.pi ok pgB ptB peB hs) ?_
  rw [hix]
  exact okNT_lc hi hg ht he P sg H r Q ys r' S hm hq
end
end DL
namespace DL
open PySem PySem.Spec L2
section
variable {K : PySem.W.Frag} {P : Addr → Prop} {sg sg' : St} {r r' : Env} {H H' : Hp}
theorem Sim.setOwn {p : Addr} {us : List V} {xs : List D} {i : Nat} (S : Sim K (With P p) sg H r) (hi : i < r.length) (np : ¬ P p) (h : H p = some (.lst us)) (q : RepL K (Lv (With P p) sg r) H us xs) :
    Sim K P (sg.set i (some (.ref p))) H (r.set i (some (.own xs))) ∧ ∀ a, OwnA (sg.set i (some (.ref p))) (r.set i (some (.own xs))) a → OwnA sg r a ∨ a = p := by
  have hi' : i < sg.length := by rw [S.len]; exact hi
  have ow : ∀ a, OwnA (sg.set i (some (.ref p))) (r.set i (some (.own xs))) a → OwnA sg r a ∨ a = p := by
    rintro a ⟨j, ys, h1, h2⟩
    by_cases hj : i = j
    · subst hj
      rw [List.getElem?_set_self hi'] at h2; cases h2
      exact .inr rfl
    · rw [List.getElem?_set_ne hj] at h1 h2
      exact .inl ⟨j, ys, h1, h2⟩
  have la : Later (Lv (With P p) sg r) H (Lv P (sg.set i (some (.ref p))) (r.set i (some (.own xs)))) H := fun a o e n =>
    ⟨e, fun z => n (z.elim (fun z => .inl (.inl z)) fun z => (ow a z).elim .inr fun z => .inl (.inr z))⟩
  refine ⟨⟨by rw [List.length_set, List.length_set]; exact S.len, fun j y e => ?_, fun j y e => ?_, fun j y e => ?_, fun a z => S.prot a (.inl z), fun j k ys zs a e1 e2 e3 e4 => ?_, fun a z z' => ?_⟩, ow⟩
  · by_cases hj : i = j
    · subst hj
      rw [List.getElem?_set_self hi] at e; cases e
    · rw [List.getElem?_set_ne hj] at e
      obtain ⟨u, h1, h2⟩ := S.dat j y e
      exact ⟨u, by rw [List.getElem?_set_ne hj]; exact h1, h2.mono la⟩
  · by_cases hj : i = j
    · subst hj
      rw [List.getElem?_set_self hi] at e; cases e
      exact ⟨p, us, List.getElem?_set_self hi', h, q.mono la⟩
    · rw [List.getElem?_set_ne hj] at e
      obtain ⟨a, vs, h1, h2, h3⟩ := S.own j y e
      exact ⟨a, vs, by rw [List.getElem?_set_ne hj]; exact h1, h2, h3.mono la⟩
  · by_cases hj : i = j
    · subst hj
      rw [List.getElem?_set_self hi] at e; cases e
    · rw [List.getElem?_set_ne hj] at e
      obtain ⟨a, h1, h2⟩ := S.scr j y e
      exact ⟨a, by rw [List.getElem?_set_ne hj]; exact h1, h2.map fun o h2 h3 => ⟨h2, fun z => h3 (.inl z)⟩⟩
  · have nown : ∀ {l : Nat} {ws : List D}, i ≠ l → r[l]? = some (some (.own ws)) → sg[l]? = some (some (.ref p)) → False := fun {l ws} hl f1 f2 => S.nP p ⟨l, ws, f1, f2⟩ (.inr rfl)
    by_cases hj : i = j
    · by_cases hk : i = k
      · rw [← hj, ← hk]
      · subst hj
        rw [List.getElem?_set_self hi'] at e3; cases e3
        rw [List.getElem?_set_ne hk] at e2 e4
        exact (nown hk e2 e4).elim
    · by_cases hk : i = k
      · subst hk
        rw [List.getElem?_set_self hi'] at e4; cases e4
        rw [List.getElem?_set_ne hj] at e1 e3
        exact (nown hj e1 e3).elim
      · rw [List.getElem?_set_ne hj] at e1 e3
        rw [List.getElem?_set_ne hk] at e2 e4
        exact S.sep j k ys zs a e1 e2 e3 e4
  · rcases ow a z with z | z
    · exact S.nP a z (.inl z')
    · exact np (by rw [← z]; exact z')
/-- one's own list changed -/
theorem Sim.updOwn {i : Nat} {xs ys : List D} {p : Addr} {us' : List V} (S : Sim K P sg H r) (e : r[i]? = some (some (.own xs))) (ep : sg[i]? = some (some (.ref p))) (q : RepL K (Lv P sg r) H us' ys) :
    Ext K P sg r H (r.set i (some (.own ys))) (upd H p (.lst us')) := by
  have hi : i < r.length := (List.getElem?_eq_some_iff.mp e).1
  have hown : OwnA sg r p := ⟨i, xs, e, ep⟩
  have sh : ∀ j : Nat, (∃ zs, (r.set i (some (Sl.own ys)))[j]? = some (some (Sl.own zs))) ↔ ∃ zs, r[j]? = some (some (Sl.own zs)) := fun j => by
    by_cases hj : i = j
    · subst hj
      rw [List.getElem?_set_self hi]
      exact ⟨fun _ => ⟨xs, e⟩, fun _ => ⟨ys, rfl⟩⟩
    · rw [List.getElem?_set_ne hj]
  have ow : ∀ a, OwnA sg (r.set i (some (.own ys))) a ↔ OwnA sg r a := fun a => by
    constructor
    · rintro ⟨j, zs, h1, h2⟩
      obtain ⟨ws, h⟩ := (sh j).mp ⟨zs, h1⟩
      exact ⟨j, ws, h, h2⟩
    · rintro ⟨j, zs, h1, h2⟩
      obtain ⟨ws, h⟩ := (sh j).mpr ⟨zs, h1⟩
      exact ⟨j, ws, h, h2⟩
  have la : Later (Lv P sg r) H (Lv P sg (r.set i (some (.own ys)))) (upd H p (.lst us')) := fun a o h n =>
    ⟨by rw [upd_ne fun z => n (.inr (by rw [z]; exact hown))]; exact h, fun z => n (z.elim .inl fun z => .inr ((ow a).mp z))⟩
  refine ⟨⟨by rw [List.length_set]; exact S.len, fun j y f => ?_, fun j y f => ?_, fun j y f => ?_, fun a h => ?_, fun j k zs ws a e1 e2 e3 e4 => ?_, fun a z => S.nP a ((ow a).mp z)⟩, sh, fun a o h n => by rw [upd_ne fun z => n (by rw [z]; exact hown)]; exact h⟩
  · by_cases hj : i = j
    · subst hj
      rw [List.getElem?_set_self hi] at f; cases f
    · rw [List.getElem?_set_ne hj] at f
      obtain ⟨u, h1, h2⟩ := S.dat j y f
      exact ⟨u, h1, h2.mono la⟩
  · by_cases hj : i = j
    · subst hj
      rw [List.getElem?_set_self hi] at f; cases f
      exact ⟨p, us', ep, upd_same, q.mono la⟩
    · rw [List.getElem?_set_ne hj] at f
      obtain ⟨a, vs, h1, h2, h3⟩ := S.own j y f
      refine ⟨a, vs, h1, ?_, h3.mono la⟩
      rw [upd_ne fun z => hj (S.sep i j xs y p e f ep (by rw [← z]; exact h1))]
      exact h2
  · by_cases hj : i = j
    · subst hj
      rw [List.getElem?_set_self hi] at f; cases f
    · rw [List.getElem?_set_ne hj] at f
      obtain ⟨a, h1, h2⟩ := S.scr j y f
      refine ⟨a, h1, h2.map fun o h2 h3 => ⟨?_, h3⟩⟩
      rw [upd_ne fun z => ?_]
      · exact h2
      · obtain ⟨b, vs, k1, k2, _⟩ := S.own i xs e
        rw [ep] at k1; cases k1
        rw [z, k2] at h2; exact o.no' h2
  · obtain ⟨o, h'⟩ := S.prot a h
    exact ⟨o, by rw [upd_ne fun z => S.nP p hown (by rw [← z]; exact h)]; exact h'⟩
  · obtain ⟨zs', f1⟩ := (sh j).mp ⟨zs, e1⟩
    obtain ⟨ws', f2⟩ := (sh k).mp ⟨ws, e2⟩
    exact S.sep j k zs' ws' a f1 f2 e3 e4
end
inductive Fl where
  | nx | ret (d : D) | retN (ds : List D) | bk | ct
abbrev SS := Env → Option (Fl × Env)
structure StE (K : PySem.W.Frag) (P : Addr → Prop) (io : List Nat) (sg : St) (r : Env) (H : Hp) (sg' : St) (r' : Env) (H' : Hp) : Prop where
  sim : Sim K P sg' H' r'
  keep : ∀ a o, H a = some o → ¬ OwnA sg r a → H' a = some o ∧ ¬ OwnA sg' r' a
  pin : ∀ i ∈ io, sg'[i]? = sg[i]?
  tr : ∀ a, H' a = none → H a = none
section
variable {K : PySem.W.Frag} {P : Addr → Prop} {io : List Nat} {sg sg1 sg2 : St} {r r1 r2 : Env} {H H1 H2 : Hp}
theorem StE.refl (S : Sim K P sg H r) : StE K P io sg r H sg r H := ⟨S, fun _ _ h n => ⟨h, n⟩, fun _ _ => rfl, fun _ h => h⟩
theorem StE.trans (a : StE K P io sg r H sg1 r1 H1) (b : StE K P io sg1 r1 H1 sg2 r2 H2) : StE K P io sg r H sg2 r2 H2 :=
  ⟨b.sim, fun c o h n => b.keep c o (a.keep c o h n).1 (a.keep c o h n).2, fun i hi => (b.pin i hi).trans (a.pin i hi), fun c h => a.tr c (b.tr c h)⟩
theorem Ext.st (E : Ext K P sg r H r1 H1) : StE K P io sg r H sg r1 H1 := ⟨E.sim, fun a o h n => ⟨E.keep a o h n, fun z => n ((E.own a).mp z)⟩, fun _ _ => rfl, fun _ h => E.none h⟩
theorem Bnd.st {ix : List Nat} (B : Bnd K P ix sg r H sg1 r1) (hd : ∀ i ∈ io, i ∉ ix) : StE K P io sg r H sg1 r1 H := ⟨B.sim, fun a o h n => ⟨h, fun z => n ((B.own a).mp z)⟩, fun i hi => B.sl i (hd i hi), fun _ h => h⟩
theorem StE.none (E : StE K P io sg r H sg1 r1 H1) {p : Addr} (h : H1 p = Option.none) : H p = Option.none := E.tr p h
theorem StE.fr (E : StE K P io sg r H sg1 r1 H1) {p : Addr} (h : H1 p = Option.none ∨ OwnA sg1 r1 p) : H p = Option.none ∨ OwnA sg r p := by
  rcases h with h | h
  · exact .inl (E.tr p h)
  · cases e : H p with
    | none => exact .inl rfl
    | some o =>
      by_cases z : OwnA sg r p
      · exact .inr z
      · exact absurd h (E.keep p o e z).2
theorem StE.later (E : StE K P io sg r H sg1 r1 H1) : Later (Lv P sg r) H (Lv P sg1 r1) H1 := fun a o h n =>
  ⟨(E.keep a o h fun z => n (.inr z)).1, fun z => z.elim (fun z => n (.inl z)) (E.keep a o h fun z => n (.inr z)).2⟩
end
/-- what a returned value must stand apart from -/
def LR (P : Addr → Prop) (io : List Nat) (sg : St) (r : Env) (a : Addr) : Prop := P a ∨ ∃ i ∈ io, ∃ xs, r[i]? = some (some (Sl.own xs)) ∧ sg[i]? = some (some (V.ref a))
def Post (K : PySem.W.Frag) (P : Addr → Prop) (io : List Nat) (sg : St) (r : Env) (H : Hp) (r' : Env) (E : Ends) : Fl → Prop
  | .nx => ∀ sg' H', StE K P io sg r H sg' r' H' → E.nx sg' H'
  | .bk => ∀ sg' H', StE K P io sg r H sg' r' H' → E.bk sg' H'
  | .ct => ∀ sg' H', StE K P io sg r H sg' r' H' → E.ct sg' H'
  | .ret d => ∀ v sg' H', StE K P io sg r H sg' r' H' → Rep K (LR P io sg' r') H' v d → E.rt v H'
  | .retN ds => ∀ p us sg' H', StE K P io sg r H sg' r' H' → Sim K (With P p) sg' H' r' → (H p = none ∨ OwnA sg r p) → H' p = some (.lst us) → RepL K (Lv (With P p) sg' r') H' us ds → E.rt (.ref p) H'
def OkS (X : Cx) (io : List Nat) (st : Stmt) (m : SS) : Prop := ∀ (P : Addr → Prop) (sg : St) (H : Hp) (r : Env) (E : Ends) (f : Fl) (r' : Env), Sim X.K P sg H r → m r = some (f, r') → Post X.K P io sg r H r' E f → US X st E sg H
def OkSs (X : Cx) (io : List Nat) (st : List Stmt) (m : SS) : Prop := ∀ (P : Addr → Prop) (sg : St) (H : Hp) (r : Env) (E : Ends) (f : Fl) (r' : Env), Sim X.K P sg H r → m r = some (f, r') → Post X.K P io sg r H r' E f → USs X st E sg H
theorem Post.after {K : PySem.W.Frag} {P : Addr → Prop} {io : List Nat} {sg sg1 : St} {r r1 r' : Env} {H H1 : Hp} {E : Ends} {f : Fl} (S : StE K P io sg r H sg1 r1 H1) (h : Post K P io sg r H r' E f) : Post K P io sg1 r1 H1 r' E f := by
  cases f with
  | nx => exact fun sg' H' q => h sg' H' (S.trans q)
  | bk => exact fun sg' H' q => h sg' H' (S.trans q)
  | ct => exact fun sg' H' q => h sg' H' (S.trans q)
  | ret d => exact fun v sg' H' q => h v sg' H' (S.trans q)
  | retN ds => exact fun p us sg' H' q s n => h p us sg' H' (S.trans q) s (S.fr n)
section
variable {X : Cx} {io : List Nat} {st : Stmt} {rest a b : List Stmt} {e c : Expr} {pos pos2 : Pos}
def sNext : SS := fun r => some (.nx, r)
theorem x9 : OkSs X io [] sNext := by
  intro P sg H r E f r' S hm hp
  cases hm
  exact USs.of pss_nil (hp sg H (StE.refl S))
def q6 (m n : SS) : SS := fun r => match m r with | some (.nx, r1) => n r1 | x => x
theorem x4 {m n : SS} (h : OkS X io st m) (hn : OkSs X io rest n) : OkSs X io (st :: rest) (q6 m n) := by
  intro P sg H r E f r' S hm hp
  unfold q6 at hm
  split at hm
  · rename_i r1 e1
    refine USs.of (pss_cons US.ps USs.pss) (h P sg H r _ .nx r1 S e1 fun sg1 H1 S1 => ?_)
    exact hn P sg1 H1 r1 E f r' S1.sim hm (hp.after S1)
  · rename_i hne
    refine USs.of (pss_cons US.ps USs.pss) (h P sg H r _ f r' S hm ?_)
    cases f with
    | nx => exact absurd hm (hne r')
    | bk => exact hp
    | ct => exact hp
    | ret d => exact hp
    | retN d => exact hp
def sExpr (m : SE) : SS := fun r => match m r with | some (_, r') => some (.nx, r') | none => none
theorem w5 {m : SE} (h : OkE X e m) (hs : swapsWith e none pos.line X.env = pure false) : OkS X io (.Expr e pos) (sExpr m) := by
  intro P sg H r E f r' S hm hp
  unfold sExpr at hm
  split at hm
  · rename_i d r1 e1
    cases hm
    exact US.of (ps_expr UE.pe hs) (h P sg H r _ d r' S e1 fun v H1 E1 _ => hp sg H1 E1.st)
  · cases hm
def OkR (X : Cx) (io : List Nat) (e : Expr) (m : SE) : Prop := ∀ (P : Addr → Prop) (sg : St) (H : Hp) (r : Env) (Q : VK) (d : D) (r' : Env), Sim X.K P sg H r → m r = some (d, r') →
  (∀ v H', Ext X.K P sg r H r' H' → Rep X.K (LR P io sg r') H' v d → Q v H') → UE X e sg H Q
theorem lr_lv {P : Addr → Prop} {sg : St} {r : Env} {H : Hp} : Later (Lv P sg r) H (LR P io sg r) H := fun a o h n => ⟨h, fun z => n (z.elim .inl fun ⟨i, _, xs, h1, h2⟩ => .inr ⟨i, xs, h1, h2⟩)⟩
theorem okR_e {m : SE} (h : OkE X e m) : OkR X io e m := fun P sg H r Q d r' S hm hq => h P sg H r Q d r' S hm fun v H' E q => hq v H' E (q.mono lr_lv)
def rVar (io : List Nat) (i : Nat) : SE := fun r => match r[i]? with
  | some (some (.d x)) => some (x, r)
  | some (some (.own xs)) => if i ∈ io then none else some (.list xs, r)
  | _ => none
theorem okR_var {i : Nat} {x : Str} (hN : X.N[i]? = some x) (hv : Vis X.env.scope x) (hd : (x == ("__debug__" : Str)) = false) (hcd : (x == ("__classdict__" : Str)) = false) : OkR X io (.Name x pos) (rVar io i) := by
  intro P sg H r Q d r' S hm hq
  unfold rVar at hm
  split at hm
  · rename_i y e1
    cases hm
    obtain ⟨v, h1, h2⟩ := S.dat i _ e1
    exact UE.of (pe_var hN hv hd hcd) ⟨v, h1, hq v H (Ext.refl S) (h2.mono lr_lv)⟩
  · rename_i xs e1
    split at hm
    · cases hm
    · rename_i hi
      cases hm
      obtain ⟨p, us, h1, h2, h3⟩ := S.own i _ e1
      refine UE.of (pe_var hN hv hd hcd) ⟨_, h1, hq _ H (Ext.refl S) (.lst h2 (fun z => ?_) (h3.mono lr_lv))⟩
      rcases z with z | ⟨j, hj, ys, j1, j2⟩
      · exact S.nP p ⟨i, xs, e1, h1⟩ z
      · have := S.sep i j xs ys p e1 j1 h1 j2
        subst this
        exact hi hj
  · cases hm
theorem okR_if {b' a' : Expr} {mc : ST} {m n : SE} (hc : OkT X c mc) (h : OkR X io a' m) (hn : OkR X io b' n) : OkR X io (.IfExp c a' b' pos) (mIf mc m n) := by
  intro P sg H r Q d r' S hm hq
  unfold mIf at hm
  split at hm
  · rename_i r1 e1
    refine UE.of (pe_ifExp UT.pt UE.pe UE.pe) (hc P sg H r _ _ _ S e1 fun H1 E1 => ?_)
    rw [if_pos rfl]
    exact h P sg H1 r1 Q d r' E1.sim hm fun w H2 E2 q2 => hq w H2 (E1.trans E2) q2
  · rename_i r1 e1
    refine UE.of (pe_ifExp UT.pt UE.pe UE.pe) (hc P sg H r _ _ _ S e1 fun H1 E1 => ?_)
    rw [if_neg Bool.false_ne_true]
    exact hn P sg H1 r1 Q d r' E1.sim hm fun w H2 E2 q2 => hq w H2 (E1.trans E2) q2
  · cases hm
def sRet (m : SE) : SS := fun r => match m r with | some (d, r') => some (.ret d, r') | none => none
theorem y8 {m : SE} (h : OkR X io e m) : OkS X io (.Return (some e) pos) (sRet m) := by
  intro P sg H r E f r' S hm hp
  unfold sRet at hm
  split at hm
  · rename_i d r1 e1
    cases hm
    exact US.of (ps_ret UE.pe) (h P sg H r _ d r' S e1 fun v H1 E1 q => hp v sg H1 E1.st q)
  · cases hm
def sRetN (m : SA) : SS := fun r => match m r with | some (d, r') => some (.retN d, r') | none => none
theorem okS_retNew {m : SA} (h : OkN X e m) : OkS X io (.Return (some e) pos) (sRetN m) := by
  intro P sg H r E f r' S hm hp
  unfold sRetN at hm
  split at hm
  · rename_i d r1 e1
    cases hm
    exact US.of (ps_ret UE.pe) (h P sg H r _ d r' S e1 fun p us H1 n => hp p us sg H1 n.ext.st n.sim (.inl n.new) n.here n.rep)
  · cases hm
/-- one's own list is handed back -/
def sRetO (i : Nat) : SS := fun r => match r[i]? with | some (some (.own xs)) => some (.retN xs, r.set i none) | _ => none
theorem okS_retO {i : Nat} {x : Str} (hN : X.N[i]? = some x) (hv : Vis X.env.scope x) (hd : (x == ("__debug__" : Str)) = false) (hcd : (x == ("__classdict__" : Str)) = false) (hi : i ∉ io) : OkS X io (.Return (some (.Name x pos)) pos2) (sRetO i) := by
  intro P sg H r E f r' S hm hp
  unfold sRetO at hm
  split at hm
  · rename_i xs e1
    cases hm
    obtain ⟨p, us, h1, h2, h3⟩ := S.own i _ e1
    have hl : i < r.length := (List.getElem?_eq_some_iff.mp e1).1
    have hne : ∀ {j : Nat} {y : Sl}, (r.set i none)[j]? = some (some y) → i ≠ j ∧ r[j]? = some (some y) := fun {j y} e => by
      by_cases hj : i = j
      · subst hj
        rw [List.getElem?_set_self hl] at e; cases e
      · rw [List.getElem?_set_ne hj] at e; exact ⟨hj, e⟩
    have ow : ∀ a, OwnA sg (r.set i none) a → OwnA sg r a ∧ a ≠ p := by
      rintro a ⟨j, ys, e, e2⟩
      obtain ⟨hj, e⟩ := hne e
      refine ⟨⟨j, ys, e, e2⟩, fun z => ?_⟩
      subst z
      exact hj (S.sep i j xs ys a e1 e h1 e2)
    have la : Later (Lv P sg r) H (Lv (With P p) sg (r.set i none)) H := fun a o h n =>
      ⟨h, fun z => z.elim (fun z => z.elim (fun z => n (.inl z)) fun z => n (.inr (by rw [z]; exact ⟨i, xs, e1, h1⟩))) fun z => n (.inr (ow a z).1)⟩
    have la2 : Later (Lv P sg r) H (Lv P sg (r.set i none)) H := fun a o h n =>
      ⟨h, fun z => z.elim (fun z => n (.inl z)) fun z => n (.inr (ow a z).1)⟩
    have S1 : Sim X.K (With P p) sg H (r.set i none) := by
      refine ⟨by rw [List.length_set]; exact S.len, fun j y e => ?_, fun j y e => ?_, fun j y e => ?_, fun a z => ?_, fun j k ys zs a f1 f2 f3 f4 => ?_, fun a z z' => ?_⟩
      · obtain ⟨u, k1, k2⟩ := S.dat j y (hne e).2
        exact ⟨u, k1, k2.mono la⟩
      · obtain ⟨a, vs, k1, k2, k3⟩ := S.own j y (hne e).2
        exact ⟨a, vs, k1, k2, k3.mono la⟩
      · obtain ⟨a, k1, k2⟩ := S.scr j y (hne e).2
        refine ⟨a, k1, k2.map fun o k2 k3 => ⟨k2, fun z => z.elim k3 fun z => ?_⟩⟩
        subst z
        rw [h2] at k2; exact o.no' k2
      · rcases z with z | z
        · exact S.prot a z
        · subst z; exact ⟨_, h2⟩
      · exact S.sep j k ys zs a (hne f1).2 (hne f2).2 f3 f4
      · rcases z' with z' | z'
        · exact S.nP a (ow a z).1 z'
        · exact (ow a z).2 z'
    have S2 : Sim X.K P sg H (r.set i none) := by
      refine ⟨S1.len, fun j y e => ?_, fun j y e => ?_, fun j y e => ?_, S.prot, S1.sep, fun a z => S.nP a (ow a z).1⟩
      · obtain ⟨u, k1, k2⟩ := S.dat j y (hne e).2
        exact ⟨u, k1, k2.mono la2⟩
      · obtain ⟨a, vs, k1, k2, k3⟩ := S.own j y (hne e).2
        exact ⟨a, vs, k1, k2, k3.mono la2⟩
      · exact S.scr j y (hne e).2
    refine US.of (ps_ret UE.pe) (UE.of (pe_var hN hv hd hcd) ⟨_, h1, ?_⟩)
    refine hp p us sg H ⟨S2, fun a o h n => ⟨h, fun z => n (ow a z).1⟩, fun _ _ => rfl, fun _ h => h⟩ S1 (.inr ⟨i, xs, e1, h1⟩) h2 (h3.mono la)
  · cases hm
def sIf (c : ST) (m n : SS) : SS := fun r => match c r with | some (true, r') => m r' | some (false, r') => n r' | none => none
theorem q9 {mc : ST} {m n : SS} (hc : OkT X c mc) (h : OkSs X io a m) (hn : OkSs X io b n) : OkS X io (.If c a b pos) (sIf mc m n) := by
  intro P sg H r E f r' S hm hp
  unfold sIf at hm
  split at hm
  · rename_i r1 e1
    refine US.of (ps_if UT.pt USs.pss USs.pss) (hc P sg H r _ _ _ S e1 fun H1 E1 => ?_)
    rw [if_pos rfl]
    exact h P sg H1 r1 E f r' E1.sim hm (hp.after E1.st)
  · rename_i r1 e1
    refine US.of (ps_if UT.pt USs.pss USs.pss) (hc P sg H r _ _ _ S e1 fun H1 E1 => ?_)
    rw [if_neg Bool.false_ne_true]
    exact hn P sg H1 r1 E f r' E1.sim hm (hp.after E1.st)
  · cases hm
def forL (t : Tg) (m : SS) : List D → Env → Option (Fl × Env)
  | [], r => some (.nx, r)
  | d :: ds, r => match t.bind d r with
    | some r1 => match m r1 with
      | some (.nx, r2) => forL t m ds r2
      | some (.ct, r2) => forL t m ds r2
      | some (.bk, r2) => some (.nx, r2)
      | some (.ret d, r2) => some (.ret d, r2)
      | some (.retN d, r2) => some (.retN d, r2)
      | none => none
    | none => none
def sFor (src : SA) (t : Tg) (m : SS) : SS := fun r => match src r with | some (ds, r1) => forL t m ds r1 | none => none
theorem okS_for {tg it : Expr} {src : SA} {t : Tg} {m : SS} (hx : PassesOwn (model X.prog X.w) X.A X.env X.xe) (hc : X.calm = true) (hi : OkI X tg it src) (hg : OkG X tg t) (hd : ∀ i ∈ io, i ∉ t.ix) (h : OkSs X io a m) (hs : ∀ x, foldedSetIterable it X.env x = pure x) :
    OkS X io (.For tg it a [] pos) (sFor src t m) := by
  intro P sg H r E f r' S hm hp
  unfold sFor at hm
  split at hm
  · rename_i ds r1 e1
    refine US.of (ps_for hx hc UI.pi UG.pg USs.pss hs) (hi P sg H r _ ds r1 S e1 fun J H1 E1 fd => ?_)
    have S1 : StE X.K P io sg r1 H1 sg r1 H1 := StE.refl E1.sim
    have hp1 : Post X.K P io sg r1 H1 r' E f := hp.after E1.st
    refine ⟨fun i k sg' H' => k = ds.length - i ∧ i ≤ ds.length ∧ ∃ r2, StE X.K P io sg r1 H1 sg' r2 H' ∧ forL t m (ds.drop i) r2 = some (f, r'), ⟨ds.length, by omega, Nat.zero_le _, r1, S1, by rw [List.drop_zero]; exact hm⟩, ?_⟩
    rintro i k sg' H' ⟨rfl, hik, r2, S2, e2⟩
    have fi := fd _ H' S2.later S2.sim.lv i
    by_cases hlt : i < ds.length
    · obtain ⟨hgo, hy⟩ := fi.1 _ (List.getElem?_eq_getElem hlt)
      rw [List.drop_eq_getElem_cons hlt] at e2
      unfold forL at e2
      refine .inr ⟨hgo, fun sg3 H3 => ∃ r3, StE X.K P io sg r1 H1 sg3 r3 H3 ∧ forL t m (ds.drop (i + 1)) r3 = some (f, r'), fun sg3 H3 h3 => ⟨ds.length - (i + 1), by omega, rfl, hlt, h3⟩, fun x H2 y => ?_⟩
      obtain ⟨g2, rx⟩ := hy x H2 y
      have E2 := S2.sim.grow g2
      split at e2
      · rename_i rb eb
        refine hg P sg' H2 r2 x _ rb _ E2.sim rx eb fun sg3 B => ?_
        have S3 : StE X.K P io sg r1 H1 sg3 rb H2 := (S2.trans E2.st).trans (B.st hd)
        split at e2
        · rename_i r3 e3
          exact h P sg3 H2 rb _ .nx r3 B.sim e3 fun sg4 H4 q => ⟨r3, S3.trans q, e2⟩
        · rename_i r3 e3
          exact h P sg3 H2 rb _ .ct r3 B.sim e3 fun sg4 H4 q => ⟨r3, S3.trans q, e2⟩
        · rename_i r3 e3
          cases e2
          exact h P sg3 H2 rb _ .bk r' B.sim e3 fun sg4 H4 q => hp1 sg4 H4 (S3.trans q)
        · rename_i d r3 e3
          cases e2
          exact h P sg3 H2 rb _ (.ret d) r' B.sim e3 fun v sg4 H4 q q' => hp1 v sg4 H4 (S3.trans q) q'
        · rename_i d r3 e3
          cases e2
          exact h P sg3 H2 rb _ (.retN d) r' B.sim e3 fun p us sg4 H4 q s n => hp1 p us sg4 H4 (S3.trans q) s (S3.fr n)
        · cases e2
      · cases e2
    · have ei : i = ds.length := by omega
      subst ei
      rw [List.drop_length] at e2
      cases e2
      exact .inl ⟨fi.2 rfl, hp1 sg' H' S2⟩
  · cases hm
def sSet (i : Nat) (m : SE) : SS := fun r => match m r with | some (x, r1) => if i < r1.length then some (.nx, r1.set i (some (.d x))) else none | none => none
theorem okS_set {i : Nat} {m : SE} {T : TE} (hio : i ∉ io) (hT : ∀ (E : Ends) (sg : St) (H : Hp), T sg H (fun v H1 => E.nx (sg.set i (some v)) H1) → US X st E sg H) (h : OkET X.K T m) : OkS X io st (sSet i m) := by
  intro P sg H r E f r' S hm hp
  unfold sSet at hm
  split at hm
  · rename_i x r1 e1
    split at hm
    · rename_i hi
      cases hm
      refine hT E sg H (h P sg H r _ x r1 S e1 fun v H1 E1 q => ?_)
      obtain ⟨S2, ow⟩ := E1.sim.setD hi q
      refine hp _ H1 (E1.st.trans ⟨S2, fun a o h n => ⟨h, fun z => n (ow a z)⟩, fun j hj => List.getElem?_set_ne fun z => hio (by rw [z]; exact hj), fun _ h => h⟩)
    · cases hm
  · cases hm
def sOwn (i : Nat) (m : SA) : SS := fun r => match m r with | some (x, r1) => if i < r1.length then some (.nx, r1.set i (some (.own x))) else none | none => none
theorem okS_own {i : Nat} {m : SA} {T : TE} (hio : i ∉ io) (hT : ∀ (E : Ends) (sg : St) (H : Hp), T sg H (fun v H1 => E.nx (sg.set i (some v)) H1) → US X st E sg H) (h : OkNT X.K T m) : OkS X io st (sOwn i m) := by
  intro P sg H r E f r' S hm hp
  unfold sOwn at hm
  split at hm
  · rename_i x r1 e1
    split at hm
    · rename_i hi
      cases hm
      refine hT E sg H (h P sg H r _ x r1 S e1 fun p vs H1 n => ?_)
      have np : ¬ P p := fun z => by
        obtain ⟨o, e⟩ := S.prot p z
        rw [n.new] at e; cases e
      obtain ⟨S2, ow⟩ := n.sim.setOwn hi np n.here n.rep
      refine hp _ H1 ⟨S2, fun a o h k => ⟨n.ext.keep a o h k, fun z => ?_⟩, fun j hj => List.getElem?_set_ne fun z => hio (by rw [z]; exact hj), fun _ h => n.ext.none h⟩
      rcases ow a z with z | z
      · exact k ((n.ext.own a).mp z)
      · rw [z, n.new] at h; cases h
    · cases hm
  · cases hm
theorem set_plain {i : Nat} {x : Str} {p' : Pos} (hN : X.N.Nodup) (hi : X.N[i]? = some x) (hx : Loc X.env.scope x) (hf : X.fn x = true ∨ X.env.scope.names.lookup x = some .local) (hs : swapsWith e (some (.Name x p')) pos.line X.env = pure false) :
    ∀ (E : Ends) (sg : St) (H : Hp), UE X e sg H (fun v H1 => E.nx (sg.set i (some v)) H1) → US X (.Assign [.Name x p'] e pos) E sg H := fun E sg H h => US.of (ps_set hN hi hx UE.pe hs hf) h
theorem set_lc {i : Nat} {y : Str} {py spos : Pos} {elt tg iter : Expr} {ifs : List Expr} {scope : Scope} {own : List (Str × Nat)} {t : Tg} (hc : X.calm = true) (hN : X.N.Nodup) (hy : X.N[i]? = some y) (hyl : X.env.scope.names.lookup y = some .local)
    (hsw : swapsWith (.ListComp elt [⟨tg, iter, ifs, 0⟩] scope pos) (some (.Name y py)) spos.line X.env = pure true) (ok : BlkOk X.N X.env.scope scope own) (hix : own.map (·.2) = t.ix) (hs : ∀ x, foldedSetIterable iter X.env x = pure x) :
    ∀ (E : Ends) (sg : St) (H : Hp), tLc (UI X tg iter) (UGb X scope tg) (UTb X scope ifs) (UEb X scope elt) t.ix sg H (fun v H1 => E.nx (sg.set i (some v)) H1) → US X (.Assign [.Name y py] (.ListComp elt [⟨tg, iter, ifs, 0⟩] scope pos) spos) E sg H :=
  fun E sg H h => US.of (ps_setLc hc hN hy hyl hsw UI.pi ok pgB ptB peB hs) (by rw [hix]; exact h)
/-- several names from one value -/
def sUnp (t : Tg) (m : SE) : SS := fun r => match m r with
  | some (x, r1) => match t.bind x r1 with | some r2 => some (.nx, r2) | none => none
  | none => none
theorem okS_unp {tg : Expr} {t : Tg} {m : SE} (h : OkE X e m) (hg : OkG X tg t) (hd : ∀ i ∈ io, i ∉ t.ix) (hs : swapsWithSole [tg] e pos.line X.env = pure false) (hw : swappedStores [tg] e X.env = pure none) (h1 : (assignEach [tg] X.env).map (·.2) = [assign tg X.env]) :
    OkS X io (.Assign [tg] e pos) (sUnp t m) := by
  intro P sg H r E f r' S hm hp
  unfold sUnp at hm
  split at hm
  · rename_i x r1 e1
    split at hm
    · rename_i r2 e2
      cases hm
      refine US.of (ps_asg UE.pe UG.pg hs hw h1) (h P sg H r _ x r1 S e1 fun v H1 E1 q => ?_)
      exact hg P sg H1 r1 v x r' _ E1.sim q e2 fun sg2 B => hp sg2 H1 (E1.st.trans (B.st hd))
    · cases hm
  · cases hm
/-- x op= e over numbers, texts -/
def sAug (i : Nat) (m : SE) (g : D → D → Option D) : SS := fun r => match r[i]? with
  | some (some (.d _)) => match m r with
    | some (y, r1) => match r1[i]? with
      | some (some (.d x)) => match g x y with | some z => some (.nx, r1.set i (some (.d z))) | none => none
      | _ => none
    | none => none
  | _ => none
def gAdd : D → D → Option D
  | .int i, .int j => some (.int (i + j))
  | _, _ => none
def gSub : D → D → Option D
  | .int i, .int j => some (.int (i - j))
  | _, _ => none
def sPut (i : Nat) (k m : SE) : SS := fun r => match m r with
  | some (y, r1) => if notOwn r1 i then none else match k r1 with
    | some (.int n, r2) => match r2[i]? with
      | some (some (.own xs)) => match ixN xs.length n with | some j => some (.nx, r2.set i (some (.own (xs.set j y)))) | none => none
      | _ => none
    | _ => none
  | none => none
theorem okS_put {i : Nat} {x : Str} {k m : SE} {ek : Expr} {px pt : Pos} (hN : X.N[i]? = some x) (hv : Vis X.env.scope x) (hd : (x == ("__debug__" : Str)) = false) (hcd : (x == ("__classdict__" : Str)) = false) (hk : OkE X ek k) (h : OkE X e m)
    (ha : ∀ v, assign (.Subscript (.Name x px) ek pt) X.env v = (do
      let ov ← holding [v] (eval (.Name x px) X.env)
      let iv ← holding [v, ov] (eval ek X.env)
      standAt pt
      holding [v, ov, iv] (setItem ov iv v)
      release [v, ov, iv] []))
    (hs : swapsWithSole [.Subscript (.Name x px) ek pt] e pos.line X.env = pure false) (hw : swappedStores [.Subscript (.Name x px) ek pt] e X.env = pure none) (h1 : (assignEach [.Subscript (.Name x px) ek pt] X.env).map (·.2) = [assign (.Subscript (.Name x px) ek pt) X.env]) :
    OkS X io (.Assign [.Subscript (.Name x px) ek pt] e pos) (sPut i k m) := by
  intro P sg H r E f r' S hm hp
  unfold sPut at hm
  split at hm
  · rename_i y r1 e1
    split at hm
    · cases hm
    rename_i h00
    split at hm
    · rename_i n r2 e2
      split at hm
      · rename_i xs e3
        split at hm
        · rename_i j e4
          cases hm
          refine US.of (ps_asg UE.pe (pg_sub (pe_var hN hv hd hcd) UE.pe set_list ha) hs hw h1) (h P sg H r _ y r1 S e1 fun v H1 E1 q1 => ?_)
          have e3' : ∃ zs, r1[i]? = some (some (Sl.own zs)) := Classical.byContradiction fun z => h00 (notOwn_iff z)
          obtain ⟨zs, e3'⟩ := e3'
          obtain ⟨p, us, p1, p2, p3⟩ := E1.sim.own i zs e3'
          refine ⟨_, p1, hk P sg H1 r1 _ _ r2 E1.sim e2 fun u H2 E2 q2 => ?_⟩
          cases q2
          obtain ⟨p', us', p1', p2', p3'⟩ := E2.sim.own i xs e3
          rw [p1] at p1'; cases p1'
          refine ⟨p, us', n, j, rfl, rfl, p2', by rw [p3'.length]; exact e4, ?_⟩
          have E3 := E2.sim.updOwn e3 p1 (p3'.set (E2.rep q1) j)
          exact hp sg _ ((E1.trans E2).trans E3).st
        · cases hm
      · cases hm
    · cases hm
  · cases hm
end
end DL
namespace DL
open PySem PySem.Spec L2
structure RoomG (k : Nat) (A : Around) : Prop where
  rm : Room k A
  gd : A.guards = some []
theorem RoomG.deeper {k : Nat} {A : Around} (r : RoomG (k + 1) A) (env : PySem.Env) : RoomG k (A.deeper env) := ⟨r.rm.deeper env, r.gd⟩
abbrev FSem := List Sl → Option (D × List Sl)
abbrev FNew := List Sl → Option (List D × List Sl)
def envOf (as : List Sl) : DL.Env := as.map some
def stOf (vs : List V) : St := vs.map some
structure FnG (P : Program) (w : World) (K : PySem.W.Frag) (mg : Str → Option Value) (base : Heap) (k : Nat) (f : Addr) (fd : FuncData) (ps : List Str) (F : FSem) : Prop where
  run : ∀ (A : Around) (outer : List PySem.Env) (s : Shared) (H : Hp) (args : Args) (us : List Value) (vs : List V) (Pr : Addr → Prop) (as as' : List Sl) (d : D) (Q : VK), RoomG k A → Env0 P w K mg base A outer s H →
    BindsTo s fd args (ps.zip us) → Vals vs us → vs.length = ps.length → Sim K Pr (stOf vs) H (envOf as) → F as = some (d, as') →
    (∀ v H', Ext K Pr (stOf vs) (envOf as) H (envOf as') H' → Rep K (Lv Pr (stOf vs) (envOf as')) H' v d → Q v H') → codeAny (model P w) A (.call (.ref f) args) (CR CX0 outer P w H s Q E0) s
structure FnN (P : Program) (w : World) (K : PySem.W.Frag) (mg : Str → Option Value) (base : Heap) (k : Nat) (f : Addr) (fd : FuncData) (ps : List Str) (F : FNew) : Prop where
  run : ∀ (A : Around) (outer : List PySem.Env) (s : Shared) (H : Hp) (args : Args) (us : List Value) (vs : List V) (Pr : Addr → Prop) (as as' : List Sl) (ds : List D) (Q : VK), RoomG k A → Env0 P w K mg base A outer s H →
    BindsTo s fd args (ps.zip us) → Vals vs us → vs.length = ps.length → Sim K Pr (stOf vs) H (envOf as) → F as = some (ds, as') →
    (∀ p us' H', NewL K Pr (stOf vs) (envOf as) H (envOf as') H' p us' ds → Q (.ref p) H') → codeAny (model P w) A (.call (.ref f) args) (CR CX0 outer P w H s Q E0) s
/-- the parameters behind the call -/
def outs (r : DL.Env) : Nat → List Sl → Option (List Sl)
  | _, [] => some []
  | i, .own xs :: as => match r[i]? with
    | some (some (.own ys)) => match outs r (i + 1) as with | some bs => some (.own ys :: bs) | none => none
    | _ => none
  | i, .d x :: as => match outs r (i + 1) as with | some bs => some (.d x :: bs) | none => none
  | i, .scr x :: as => match outs r (i + 1) as with | some bs => some (.scr x :: bs) | none => none
def ioOk (io : List Nat) : Nat → List Sl → Bool
  | _, [] => true
  | i, .own _ :: as => decide (i ∈ io) && ioOk io (i + 1) as
  | i, .d _ :: as => ioOk io (i + 1) as
  | i, .scr _ :: as => ioOk io (i + 1) as
theorem outs_length {r : DL.Env} : ∀ {as bs : List Sl} {i : Nat}, outs r i as = some bs → bs.length = as.length
  | [], bs, i, e => by cases e; rfl
  | .own xs :: as, bs, i, e => by
    unfold outs at e
    split at e
    · split at e
      · rename_i cs e2; cases e; exact congrArg (· + 1) (outs_length e2)
      · cases e
    · cases e
  | .d x :: as, bs, i, e => by
    unfold outs at e
    split at e
    · rename_i cs e2; cases e; exact congrArg (· + 1) (outs_length e2)
    · cases e
  | .scr x :: as, bs, i, e => by
    unfold outs at e
    split at e
    · rename_i cs e2; cases e; exact congrArg (· + 1) (outs_length e2)
    · cases e
theorem outs_get {r : DL.Env} : ∀ {as bs : List Sl} {i j : Nat} {b : Sl}, outs r i as = some bs → bs[j]? = some b → (∃ xs ys, as[j]? = some (.own xs) ∧ b = .own ys ∧ r[i + j]? = some (some (.own ys))) ∨ (as[j]? = some b ∧ ∀ ys, b ≠ .own ys)
  | [], bs, i, j, b, e, h => by cases e; simp at h
  | .own xs :: as, bs, i, j, b, e, h => by
    unfold outs at e
    split at e
    · rename_i ys e1
      split at e
      · rename_i cs e2
        cases e
        cases j with
        | zero => simp at h; exact .inl ⟨xs, ys, rfl, h.symm, e1⟩
        | succ j =>
          have := outs_get e2 (show cs[j]? = some b by simpa using h)
          rw [show i + 1 + j = i + (j + 1) by omega] at this
          simpa using this
      · cases e
    · cases e
  | .d x :: as, bs, i, j, b, e, h => by
    unfold outs at e
    split at e
    · rename_i cs e2
      cases e
      cases j with
      | zero => simp at h; exact .inr ⟨by simp [h], fun ys z => by rw [← h] at z; cases z⟩
      | succ j =>
        have := outs_get e2 (show cs[j]? = some b by simpa using h)
        rw [show i + 1 + j = i + (j + 1) by omega] at this
        simpa using this
    · cases e
  | .scr x :: as, bs, i, j, b, e, h => by
    unfold outs at e
    split at e
    · rename_i cs e2
      cases e
      cases j with
      | zero => simp at h; exact .inr ⟨by simp [h], fun ys z => by rw [← h] at z; cases z⟩
      | succ j =>
        have := outs_get e2 (show cs[j]? = some b by simpa using h)
        rw [show i + 1 + j = i + (j + 1) by omega] at this
        simpa using this
    · cases e
theorem ioOk_get {io : List Nat} : ∀ {as : List Sl} {i j : Nat} {xs : List D}, ioOk io i as = true → as[j]? = some (.own xs) → i + j ∈ io
  | [], i, j, xs, _, e => by simp at e
  | .own ys :: as, i, j, xs, h, e => by
    unfold ioOk at h
    simp only [Bool.and_eq_true, decide_eq_true_eq] at h
    cases j with
    | zero => exact h.1
    | succ j => rw [show i + (j + 1) = i + 1 + j by omega]; exact ioOk_get h.2 (by simpa using e)
  | .d y :: as, i, j, xs, h, e => by
    unfold ioOk at h
    cases j with
    | zero => simp at e
    | succ j => rw [show i + (j + 1) = i + 1 + j by omega]; exact ioOk_get h (by simpa using e)
  | .scr y :: as, i, j, xs, h, e => by
    unfold ioOk at h
    cases j with
    | zero => simp at e
    | succ j => rw [show i + (j + 1) = i + 1 + j by omega]; exact ioOk_get h (by simpa using e)
def pad (n : Nat) (as : List Sl) : DL.Env := envOf as ++ List.replicate (n - as.length) none
def runF (n : Nat) (io : List Nat) (m : SS) : FSem := fun as => if ioOk io 0 as then match m (pad n as) with
  | some (.ret d, r) => match outs r 0 as with | some bs => some (d, bs) | none => none
  | some (.retN ds, r) => match outs r 0 as with | some bs => some (.list ds, bs) | none => none
  | some (.nx, r) => match outs r 0 as with | some bs => some (.none, bs) | none => none
  | _ => none else none
def runN (n : Nat) (io : List Nat) (m : SS) : FNew := fun as => if ioOk io 0 as then match m (pad n as) with
  | some (.retN ds, r) => match outs r 0 as with | some bs => some (ds, bs) | none => none
  | _ => none else none
theorem envOf_get {as : List Sl} {i : Nat} {y : Sl} : (envOf as)[i]? = some (some y) ↔ as[i]? = some y := by
  unfold envOf
  rw [List.getElem?_map]
  cases as[i]? <;> simp
theorem stOf_get {as : List V} {i : Nat} {y : V} : (stOf as)[i]? = some (some y) ↔ as[i]? = some y := by
  unfold stOf
  rw [List.getElem?_map]
  cases as[i]? <;> simp
theorem pad_get {n : Nat} {as : List Sl} {i : Nat} {y : Sl} : (pad n as)[i]? = some (some y) ↔ as[i]? = some y := by
  unfold pad
  by_cases hi : i < as.length
  · rw [List.getElem?_append_left (by unfold envOf; simpa using hi)]
    exact envOf_get
  · rw [List.getElem?_append_right (by unfold envOf; simpa using hi), List.getElem?_replicate, List.getElem?_eq_none (by omega : as.length ≤ i)]
    split <;> simp
theorem start_get {N : List Str} {vs : List V} {i : Nat} {y : V} : (start N vs)[i]? = some (some y) ↔ vs[i]? = some y := by
  unfold L2.start
  by_cases hi : i < vs.length
  · rw [List.getElem?_append_left (by simpa using hi), List.getElem?_map]
    cases vs[i]? <;> simp
  · rw [List.getElem?_append_right (by simpa using hi), List.getElem?_replicate, List.getElem?_eq_none (by omega : vs.length ≤ i)]
    split <;> simp
section
variable {K : PySem.W.Frag} {Pr : Addr → Prop} {H H' : Hp} {vs : List V} {as as' bs : List Sl}
theorem ownA_start {N : List Str} {n : Nat} (a : Addr) : OwnA (start N vs) (pad n as) a ↔ OwnA (stOf vs) (envOf as) a := by
  constructor
  · rintro ⟨i, xs, h1, h2⟩
    exact ⟨i, xs, envOf_get.mpr (pad_get.mp h1), stOf_get.mpr (start_get.mp h2)⟩
  · rintro ⟨i, xs, h1, h2⟩
    exact ⟨i, xs, pad_get.mpr (envOf_get.mp h1), start_get.mpr (stOf_get.mp h2)⟩
theorem sim_len (S : Sim K Pr (stOf vs) H (envOf as)) : vs.length = as.length := by
  have := S.len
  unfold stOf envOf at this
  simpa using this
theorem Sim.start {N : List Str} (S : Sim K Pr (stOf vs) H (envOf as)) (hl : vs.length ≤ N.length) : Sim K Pr (L2.start N vs) H (pad N.length as) := by
  have e := sim_len S
  have la : Later (Lv Pr (stOf vs) (envOf as)) H (Lv Pr (L2.start N vs) (pad N.length as)) H := fun a o h n => ⟨h, fun z => n (z.elim .inl fun z => .inr ((ownA_start a).mp z))⟩
  refine ⟨?_, fun i x h => ?_, fun i x h => ?_, fun i x h => ?_, S.prot, fun i j xs ys a h1 h2 h3 h4 => ?_, fun a z => S.nP a ((ownA_start a).mp z)⟩
  · unfold L2.start pad envOf
    simp only [List.length_append, List.length_map, List.length_replicate]
    omega
  · obtain ⟨v, h1, h2⟩ := S.dat i x (envOf_get.mpr (pad_get.mp h))
    exact ⟨v, start_get.mpr (stOf_get.mp h1), h2.mono la⟩
  · obtain ⟨a, us, h1, h2, h3⟩ := S.own i x (envOf_get.mpr (pad_get.mp h))
    exact ⟨a, us, start_get.mpr (stOf_get.mp h1), h2, h3.mono la⟩
  · obtain ⟨a, h1, h2⟩ := S.scr i x (envOf_get.mpr (pad_get.mp h))
    exact ⟨a, start_get.mpr (stOf_get.mp h1), h2⟩
  · exact S.sep i j xs ys a (envOf_get.mpr (pad_get.mp h1)) (envOf_get.mpr (pad_get.mp h2)) (stOf_get.mpr (start_get.mp h3)) (stOf_get.mpr (start_get.mp h4))
/-- a list that is handed back is none of the parameters -/
theorem fresh_of {N : List Str} {io : List Nat} {sg' : St} {r' : DL.Env} {p : Addr} (S : Sim K Pr (stOf vs) H (envOf as)) (hio : ioOk io 0 as = true) (E : StE K Pr io (start N vs) (pad N.length as) H sg' r' H') (ho : outs r' 0 as = some bs)
    (SP : Sim K (With Pr p) sg' H' r') (np : H p = none ∨ OwnA (start N vs) (pad N.length as) p) : H p = none := by
  rcases np with np | np
  · exact np
  · exfalso
    obtain ⟨i, xs, h1, h2⟩ := (ownA_start p).mp np
    have h := envOf_get.mp h1
    have hl := outs_length ho
    have hi : i < bs.length := by rw [hl]; exact (List.getElem?_eq_some_iff.mp h).1
    rcases outs_get ho (List.getElem?_eq_getElem hi) with ⟨ys, zs, _, k2, k3⟩ | ⟨k1, k2⟩
    · rw [Nat.zero_add] at k3
      have hi' := ioOk_get hio h
      rw [Nat.zero_add] at hi'
      have : sg'[i]? = some (some (.ref p)) := by
        rw [E.pin i hi']
        exact start_get.mpr (stOf_get.mp h2)
      exact SP.nP p ⟨i, zs, k3, this⟩ (.inr rfl)
    · rw [h] at k1
      exact absurd (Option.some.inj k1).symm (k2 xs)
/-- from the end of the body to what the caller sees -/
theorem ends {P : Addr → Prop} {N : List Str} {io : List Nat} {sg' : St} {r' : DL.Env} (S : Sim K Pr (stOf vs) H (envOf as)) (hio : ioOk io 0 as = true) (E : StE K Pr io (start N vs) (pad N.length as) H sg' r' H') (ho : outs r' 0 as = some bs)
    (hP : ∀ a, Pr a → P a) (SP : Sim K P sg' H' r') (hPn : ∀ a, P a → ¬ Pr a → H a = none) :
    Ext K Pr (stOf vs) (envOf as) H (envOf bs) H' ∧ Sim K P (stOf vs) H' (envOf bs) ∧ ∀ a, Lv P (stOf vs) (envOf bs) a → LR P io sg' r' a := by
  have hl := outs_length ho
  have el := sim_len S
  have sh : ∀ i : Nat, (∃ xs, (envOf bs)[i]? = some (some (Sl.own xs))) ↔ ∃ xs, (envOf as)[i]? = some (some (Sl.own xs)) := fun i => by
    constructor
    · rintro ⟨xs, h⟩
      rcases outs_get ho (envOf_get.mp h) with ⟨ys, zs, h1, _, _⟩ | ⟨_, h2⟩
      · exact ⟨ys, envOf_get.mpr h1⟩
      · exact absurd rfl (h2 xs)
    · rintro ⟨xs, h⟩
      have h := envOf_get.mp h
      have hi : i < bs.length := by rw [hl]; exact (List.getElem?_eq_some_iff.mp h).1
      rcases outs_get ho (List.getElem?_eq_getElem hi) with ⟨ys, zs, _, h2, _⟩ | ⟨h1, h2⟩
      · exact ⟨zs, envOf_get.mpr (by rw [List.getElem?_eq_getElem hi, h2])⟩
      · rw [h] at h1
        exact absurd (Option.some.inj h1).symm (h2 xs)
  have ow : ∀ a, OwnA (stOf vs) (envOf bs) a ↔ OwnA (stOf vs) (envOf as) a := fun a => by
    constructor
    · rintro ⟨i, xs, h1, h2⟩
      obtain ⟨ys, h⟩ := (sh i).mp ⟨xs, h1⟩
      exact ⟨i, ys, h, h2⟩
    · rintro ⟨i, xs, h1, h2⟩
      obtain ⟨ys, h⟩ := (sh i).mpr ⟨xs, h1⟩
      exact ⟨i, ys, h, h2⟩
  -- an own parameter: its slot at the end
  have own_at : ∀ (i : Nat) (xs : List D), bs[i]? = some (.own xs) → r'[i]? = some (some (.own xs)) ∧ i ∈ io := fun i xs h => by
    rcases outs_get ho h with ⟨ys, zs, h1, h2, h3⟩ | ⟨_, h2⟩
    · cases h2
      rw [Nat.zero_add] at h3
      have := ioOk_get hio h1
      rw [Nat.zero_add] at this
      exact ⟨h3, this⟩
    · exact absurd rfl (h2 xs)
  have pin_at : ∀ (i : Nat) (a : Addr), i ∈ io → (stOf vs)[i]? = some (some (.ref a)) → sg'[i]? = some (some (.ref a)) := fun i a hi h => by
    rw [E.pin i hi]
    exact start_get.mpr (stOf_get.mp h)
  have own_in : ∀ a, OwnA (stOf vs) (envOf bs) a → ∃ i ∈ io, ∃ xs, r'[i]? = some (some (Sl.own xs)) ∧ sg'[i]? = some (some (V.ref a)) := by
    rintro a ⟨i, xs, h1, h2⟩
    obtain ⟨h3, h4⟩ := own_at i xs (envOf_get.mp h1)
    exact ⟨i, h4, xs, h3, pin_at i a h4 h2⟩
  have lb : Later (Lv P sg' r') H' (Lv P (stOf vs) (envOf bs)) H' := fun a o h n => ⟨h, fun z => n (z.elim .inl fun z => by
    obtain ⟨i, _, xs, h1, h2⟩ := own_in a z
    exact .inr ⟨i, xs, h1, h2⟩)⟩
  have la : Later (Lv Pr (stOf vs) (envOf as)) H (Lv P (stOf vs) (envOf bs)) H' := fun a o h n => by
    have k := E.keep a o h fun z => n (.inr ((ownA_start a).mp z))
    refine ⟨k.1, fun z => z.elim (fun z => ?_) fun z => n (.inr ((ow a).mp z))⟩
    by_cases hp : Pr a
    · exact n (.inl hp)
    · have := hPn a z hp
      rw [h] at this; cases this
  have SB : Sim K P (stOf vs) H' (envOf bs) := by
    refine ⟨?_, fun i x h => ?_, fun i x h => ?_, fun i x h => ?_, SP.prot, fun i j xs ys a h1 h2 h3 h4 => ?_, fun a z z' => ?_⟩
    · unfold stOf envOf
      simp only [List.length_map]
      omega
    · rcases outs_get ho (envOf_get.mp h) with ⟨ys, zs, _, h2, _⟩ | ⟨h1, _⟩
      · cases h2
      · obtain ⟨v, k1, k2⟩ := S.dat i x (envOf_get.mpr h1)
        exact ⟨v, k1, k2.mono la⟩
    · obtain ⟨h3, h4⟩ := own_at i x (envOf_get.mp h)
      obtain ⟨ys, h5⟩ := (sh i).mp ⟨x, h⟩
      obtain ⟨a, us, k1, _, _⟩ := S.own i ys h5
      obtain ⟨a', us', k1', k2', k3'⟩ := SP.own i x h3
      rw [pin_at i a h4 k1] at k1'; cases k1'
      exact ⟨a, us', k1, k2', k3'.mono lb⟩
    · rcases outs_get ho (envOf_get.mp h) with ⟨ys, zs, _, h2, _⟩ | ⟨h1, _⟩
      · cases h2
      · obtain ⟨a, k1, k2⟩ := S.scr i x (envOf_get.mpr h1)
        refine ⟨a, k1, k2.map fun o k2 k3 => ?_⟩
        have no : ¬ OwnA (stOf vs) (envOf as) a := fun ⟨j, xs, j1, j2⟩ => by
          obtain ⟨b, us, l1, l2, _⟩ := S.own j xs j1
          rw [j2] at l1; cases l1
          rw [k2] at l2; exact o.no l2
        refine ⟨(E.keep a _ k2 fun z => no ((ownA_start a).mp z)).1, fun z => ?_⟩
        by_cases hp : Pr a
        · exact k3 hp
        · have := hPn a z hp
          rw [k2] at this; cases this
    · obtain ⟨xs', f1⟩ := (sh i).mp ⟨xs, h1⟩
      obtain ⟨ys', f2⟩ := (sh j).mp ⟨ys, h2⟩
      exact S.sep i j xs' ys' a f1 f2 h3 h4
    · obtain ⟨i, _, xs, h1, h2⟩ := own_in a z
      exact SP.nP a ⟨i, xs, h1, h2⟩ z'
  exact ⟨⟨SB.less hP, sh, fun a o h n => (E.keep a o h fun z => n ((ownA_start a).mp z)).1⟩, SB, fun a z => z.elim .inl fun z => .inr (own_in a z)⟩
end
/-- the context of a body keeps what a def asks -/
abbrev v3 (P : Program) (w : World) (K : PySem.W.Frag) (mg : Str → Option Value) (base : Heap) (N : List Str) (qual : Str) (st : Stmt) (f : Addr) (cdv : Value) (A : Around) (outer : List PySem.Env) (s : Shared) (H : Hp) : Cx :=
  (cxOf CX0 P w K mg base N qual (defScope st) f cdv A outer s H E0).nox
section
variable {P : Program} {w : World} {K : PySem.W.Frag} {mg : Str → Option Value} {base : Heap} {x qual : Str} {st : Stmt} {f : Addr} {fd : FuncData} {N ps : List Str} {k : Nat}
theorem enter {io : List Nat} {m : SS} (F : Fun K x qual st f fd) (S : FnScope N ps (defScope st)) (hb : ∀ cdv A outer s H, RoomG k (A.deeper (PyProof.Rows.envOfC qual (defScope st) s.heap.objs.size f cdv)) → OkSs (v3 P w K mg base N qual st f cdv A outer s H) io (defBody st) m)
    {A : Around} {outer : List PySem.Env} {s : Shared} {H : Hp} {args : Args} {us : List Value} {vs : List V} {Pr : Addr → Prop} {as : List Sl} {Q : VK} {fl : Fl} {r' : DL.Env} (hr : RoomG (k + 1) A) (e0 : Env0 P w K mg base A outer s H)
    (hbd : BindsTo s fd args (ps.zip us)) (rv : Vals vs us) (hl : vs.length = ps.length) (SM : Sim K Pr (stOf vs) H (envOf as)) (hm : m (pad N.length as) = some (fl, r'))
    (post : Post K Pr io (start N vs) (pad N.length as) H r' { nx := fun _ H' => Q .non H', rt := Q } fl) : codeAny (model P w) A (.call (.ref f) args) (CR CX0 outer P w H s Q E0) s := by
  obtain ⟨oc, od, kV, doc, pm, an, cdv, ct, osl, rfl, lk, hcd⟩ := F.ex
  have inK : K.In s.heap := e0.mod.kin.keeps fun b o e => (e0.bs b o e).1
  have noL : s.heap.NoLimit := e0.mod.nolimit.keeps fun b o e => (e0.bs b o e).1
  have kinds : ∀ y ∈ ps.zip us, (defScope st).names.lookup y.1 = some .local ∨ ((defScope st).names.lookup y.1 = some .cell ∧ ((cellsFrom (s.heap.objs.size + 1) (defScope st).names []).lookup y.1).isSome = true) := by
    rintro ⟨n, v⟩ hy
    rcases S.par n (List.of_mem_zip hy).1 with q | q
    · exact Or.inl q
    · exact Or.inr ⟨q, PySem.W.cellsFrom_some _ _ _ (Or.inl q)⟩
  refine codeAny_call_function hr.rm.depth (inK _ _ lk) rfl S.co S.gen rfl (PySem.W.codeRec_of inK hcd) (hbd _ _ _ _ ?_)
  refine wpAny_newFunctionEnv_cells S.kind kinds (fun env he s1 y => ?_)
  cases he
  refine ⟨noL.keeps y.toInCall.keep, codeAny_func ?_⟩
  have hN : vs.length ≤ N.length := by
    have := congrArg List.length S.pre
    rw [List.length_take] at this
    omega
  have I1 : Inv (v3 P w K mg base N qual st f cdv A outer s H) [] (start N vs) H s1 := (inv_start S hr.rm.hd e0 hl rv y).wish _
  have run := hb cdv A outer s H (hr.deeper _) Pr (start N vs) H (pad N.length as) { nx := fun _ H' => Q .non H', rt := Q } fl r' (SM.start hN) hm post [] s1 I1
  refine wpAny_mono run (fun g s' hs => ?_) (fun _ _ z => z.elim)
  have back : ∀ {sg' : St} {H' : Hp} {v : V} {u : Value}, Inv (v3 P w K mg base N qual st f cdv A outer s H) [] sg' H' s' → RelV v u → Q v H' → CE outer P w H s Q u s' := fun {sg' H' v u} J r q => ⟨v, H', J.os, J.bare, J.base, J.hok, r, q⟩
  cases g with
  | ret u => obtain ⟨v, sg', H', J, r, q⟩ := hs; exact back J r q
  | next => obtain ⟨sg', H', J, q⟩ := hs; exact back (v := V.non) (u := Value.none) J rfl q
  | brk => obtain ⟨_, _, _, q⟩ := hs; exact q.elim
  | cont => obtain ⟨_, _, _, q⟩ := hs; exact q.elim
theorem fnG_of {io : List Nat} {m : SS} (F : Fun K x qual st f fd) (S : FnScope N ps (defScope st)) (hb : ∀ cdv A outer s H, RoomG k (A.deeper (PyProof.Rows.envOfC qual (defScope st) s.heap.objs.size f cdv)) → OkSs (v3 P w K mg base N qual st f cdv A outer s H) io (defBody st) m) :
    FnG P w K mg base (k + 1) f fd ps (runF N.length io m) := by
  refine ⟨fun A outer s H args us vs Pr as as' d Q hr e0 hbd rv hl SM hF hq => ?_⟩
  unfold runF at hF
  split at hF
  · rename_i hio
    split at hF
    · rename_i d0 r e1
      split at hF
      · rename_i bs e2
        cases hF
        refine enter F S hb hr e0 hbd rv hl SM e1 fun v sg' H' E q => ?_
        obtain ⟨EX, _, hL⟩ := ends SM hio E e2 (fun _ h => h) E.sim (fun a h n => absurd h n)
        exact hq v H' EX (q.mono fun a o h n => ⟨h, fun z => n (hL a z)⟩)
      · cases hF
    · rename_i d0 r e1
      split at hF
      · rename_i bs e2
        cases hF
        refine enter F S hb hr e0 hbd rv hl SM e1 fun p us' sg' H' E SP np hp q => ?_
        have np := fresh_of SM hio E e2 SP np
        have nP : ¬ Pr p := fun z => by obtain ⟨o, e⟩ := SM.prot p z; rw [np] at e; cases e
        obtain ⟨EX, SB, hL⟩ := ends SM hio E e2 (P := With Pr p) (fun _ h => .inl h) SP (fun a h n => h.elim (fun z => absurd z n) fun z => by rw [z]; exact np)
        refine hq _ H' EX (.lst hp (fun z => z.elim nP fun z => SB.nP p z (.inr rfl)) (q.mono fun a o h n => ⟨h, fun z => n (z.elim (fun z => .inl (.inl z)) fun z => ?_)⟩))
        rcases hL a (.inr z) with z | ⟨i, _, xs, h1, h2⟩
        · exact .inl z
        · exact .inr ⟨i, xs, h1, h2⟩
      · cases hF
    · rename_i r e1
      split at hF
      · rename_i bs e2
        cases hF
        refine enter F S hb hr e0 hbd rv hl SM e1 fun sg' H' E => ?_
        obtain ⟨EX, _, hL⟩ := ends SM hio E e2 (fun _ h => h) E.sim (fun a h n => absurd h n)
        exact hq .non H' EX .non
      · cases hF
    · cases hF
  · cases hF
theorem fnN_of {io : List Nat} {m : SS} (F : Fun K x qual st f fd) (S : FnScope N ps (defScope st)) (hb : ∀ cdv A outer s H, RoomG k (A.deeper (PyProof.Rows.envOfC qual (defScope st) s.heap.objs.size f cdv)) → OkSs (v3 P w K mg base N qual st f cdv A outer s H) io (defBody st) m) :
    FnN P w K mg base (k + 1) f fd ps (runN N.length io m) := by
  refine ⟨fun A outer s H args us vs Pr as as' d Q hr e0 hbd rv hl SM hF hq => ?_⟩
  unfold runN at hF
  split at hF
  · rename_i hio
    split at hF
    · rename_i d0 r e1
      split at hF
      · rename_i bs e2
        cases hF
        refine enter F S hb hr e0 hbd rv hl SM e1 fun p us' sg' H' E SP np hp q => ?_
        have np := fresh_of SM hio E e2 SP np
        obtain ⟨EX, SB, hL⟩ := ends SM hio E e2 (P := With Pr p) (fun _ h => .inl h) SP (fun a h n => h.elim (fun z => absurd z n) fun z => by rw [z]; exact np)
        refine hq p us' H' ⟨EX, SB, np, hp, q.mono fun a o h n => ⟨h, fun z => n ?_⟩⟩
        rcases hL a z with z | ⟨i, _, xs, h1, h2⟩
        · exact .inl z
        · exact .inr ⟨i, xs, h1, h2⟩
      · cases hF
    · cases hF
  · cases hF
end
end DL
namespace DL
open PySem PySem.Spec L2
/-- what is handed over -/
def argSl : Opd → Option D → DL.Env → Option Sl
  | .ex _, some x, _ => some (.d x)
  | .ex _, none, _ => none
  | .dc kvs, _, _ => some (.scr (.dct kvs))
  | .sl i, _, r => match r[i]? with | some (some y) => some y | _ => none
def args : List Opd → List (Option D) → DL.Env → Option (List Sl)
  | [], [], _ => some []
  | o :: os, x :: xs, r => match argSl o x r with
    | some a => match args os xs r with | some as => some (a :: as) | none => none
    | none => none
  | _, _, _ => none
/-- the lists that are handed over: which slots -/
def gv1 : Opd → Sl → List Nat
  | .sl i, .own _ => [i]
  | _, _ => []
def given : List Opd → List Sl → List Nat
  | [], _ => []
  | _ :: _, [] => []
  | o :: os, a :: as => gv1 o a ++ given os as
def bk1 : Opd → Sl → DL.Env → DL.Env
  | .sl i, .own ys, r => r.set i (some (.own ys))
  | _, _, r => r
def back : List Opd → List Sl → DL.Env → DL.Env
  | [], _, r => r
  | _ :: _, [], r => r
  | o :: os, a :: as, r => back os as (bk1 o a r)
def mFn (F : FSem) (os : List Opd) : SE := fun r => match preAll os r with
  | some (xs, r1) => match args os xs r1 with
    | some as => if (given os as).Nodup then match F as with
      | some (d, as') => some (d, back os as' r1)
      | none => none else none
    | none => none
  | none => none
def nFn (F : FNew) (os : List Opd) : SA := fun r => match preAll os r with
  | some (xs, r1) => match args os xs r1 with
    | some as => if (given os as).Nodup then match F as with
      | some (d, as') => some (d, back os as' r1)
      | none => none else none
    | none => none
  | none => none
section
variable {K : PySem.W.Frag} {P : Addr → Prop} {sg : St} {r : DL.Env} {H H' : Hp}
theorem args_get : ∀ {os : List Opd} {xs : List (Option D)} {vs : List V} {as : List Sl} {k : Nat} {a : Sl}, PendL K P sg os vs xs r H → args os xs r = some as → as[k]? = some a →
    ∃ o x v, os[k]? = some o ∧ vs[k]? = some v ∧ Pend K P sg o v x r H ∧ argSl o x r = some a
  | [], xs, vs, as, k, a, h, e, ha => by
    obtain ⟨rfl, rfl⟩ := h
    cases e
    simp at ha
  | o :: os, _, _, as, k, a, ⟨v, vs', x, xs', rfl, rfl, h1, h2⟩, e, ha => by
    unfold args at e
    split at e
    · rename_i a0 e1
      split at e
      · rename_i as0 e2
        cases e
        cases k with
        | zero => simp at ha; subst ha; exact ⟨o, x, v, rfl, rfl, h1, e1⟩
        | succ k =>
          obtain ⟨o', x', v', k1, k2, k3, k4⟩ := args_get h2 e2 (show as0[k]? = some a by simpa using ha)
          exact ⟨o', x', v', by simpa using k1, by simpa using k2, k3, k4⟩
      · cases e
    · cases e
theorem args_len : ∀ {os : List Opd} {xs : List (Option D)} {vs : List V} {as : List Sl}, PendL K P sg os vs xs r H → args os xs r = some as → vs.length = as.length ∧ os.length = as.length
  | [], xs, vs, as, h, e => by
    obtain ⟨rfl, rfl⟩ := h
    cases e
    exact ⟨rfl, rfl⟩
  | o :: os, _, _, as, ⟨v, vs', x, xs', rfl, rfl, h1, h2⟩, e => by
    unfold args at e
    split at e
    · split at e
      · rename_i as0 e2
        cases e
        have := args_len h2 e2
        exact ⟨congrArg (· + 1) this.1, congrArg (· + 1) this.2⟩
      · cases e
    · cases e
theorem given_mem : ∀ {os : List Opd} {as : List Sl} {k i : Nat} {xs : List D}, os[k]? = some (.sl i) → as[k]? = some (.own xs) → i ∈ given os as
  | [], _, k, i, xs, h, _ => by simp at h
  | o :: os, [], k, i, xs, _, h => by simp at h
  | o :: os, a :: as, 0, i, xs, h, h' => by
    simp at h h'
    subst h h'
    simp [given, gv1]
  | o :: os, a :: as, k + 1, i, xs, h, h' => by
    have := given_mem (os := os) (as := as) (by simpa using h) (by simpa using h')
    exact List.mem_append_right _ this
theorem given_inj : ∀ {os : List Opd} {as : List Sl} {k j i : Nat} {xs ys : List D}, (given os as).Nodup → os[k]? = some (.sl i) → as[k]? = some (.own xs) → os[j]? = some (.sl i) → as[j]? = some (.own ys) → k = j
  | [], _, k, j, i, xs, ys, _, h, _, _, _ => by simp at h
  | o :: os, [], k, j, i, xs, ys, _, _, h, _, _ => by simp at h
  | o :: os, a :: as, 0, 0, i, xs, ys, nd, h1, h2, h3, h4 => rfl
  | o :: os, a :: as, 0, j + 1, i, xs, ys, nd, h1, h2, h3, h4 => by
    simp at h1 h2
    subst h1 h2
    have := given_mem (os := os) (as := as) (by simpa using h3) (by simpa using h4)
    simp only [given, gv1, List.cons_append, List.nil_append, List.nodup_cons] at nd
    exact absurd this nd.1
  | o :: os, a :: as, k + 1, 0, i, xs, ys, nd, h1, h2, h3, h4 => by
    simp at h3 h4
    subst h3 h4
    have := given_mem (os := os) (as := as) (by simpa using h1) (by simpa using h2)
    simp only [given, gv1, List.cons_append, List.nil_append, List.nodup_cons] at nd
    exact absurd this nd.1
  | o :: os, a :: as, k + 1, j + 1, i, xs, ys, nd, h1, h2, h3, h4 => by
    have nd' : (given os as).Nodup := (List.nodup_append.mp (show (gv1 o a ++ given os as).Nodup from nd)).2.1
    exact congrArg (· + 1) (given_inj nd' (by simpa using h1) (by simpa using h2) (by simpa using h3) (by simpa using h4))
/-- what the callee must not touch -/
def Rest (P : Addr → Prop) (sg : St) (r : DL.Env) (vs : List V) (as : List Sl) : Addr → Prop := fun a => Lv P sg r a ∧ ¬ OwnA (stOf vs) (envOf as) a
theorem ownA_sub {os : List Opd} {xs : List (Option D)} {vs : List V} {as : List Sl} (hp : PendL K P sg os vs xs r H) (ha : args os xs r = some as) {k : Nat} {ys : List D} {a : Addr} (h1 : as[k]? = some (.own ys)) (h2 : vs[k]? = some (.ref a)) :
    ∃ i, os[k]? = some (.sl i) ∧ r[i]? = some (some (.own ys)) ∧ sg[i]? = some (some (.ref a)) := by
  obtain ⟨o, x, v, e1, e2, e3, e4⟩ := args_get hp ha h1
  rw [h2] at e2; cases e2
  cases o with
  | dc kvs => cases e4
  | ex m => cases x <;> cases e4
  | sl i =>
    unfold argSl at e4
    simp only at e4
    split at e4
    · rename_i y e5
      cases e4
      exact ⟨i, e1, e5, e3⟩
    · cases e4
theorem callee_sim {os : List Opd} {xs : List (Option D)} {vs : List V} {as : List Sl} (S : Sim K P sg H r) (hp : PendL K P sg os vs xs r H) (ha : args os xs r = some as) (nd : (given os as).Nodup) :
    Sim K (Rest P sg r vs as) (stOf vs) H (envOf as) ∧ (∀ a, Lv (Rest P sg r vs as) (stOf vs) (envOf as) a ↔ Lv P sg r a) := by
  have ow : ∀ a, OwnA (stOf vs) (envOf as) a → OwnA sg r a := by
    rintro a ⟨k, ys, h1, h2⟩
    obtain ⟨i, _, e2, e3⟩ := ownA_sub hp ha (envOf_get.mp h1) (stOf_get.mp h2)
    exact ⟨i, ys, e2, e3⟩
  have lv : ∀ a, Lv (Rest P sg r vs as) (stOf vs) (envOf as) a ↔ Lv P sg r a := fun a => by
    constructor
    · rintro (h | h)
      · exact h.1
      · exact .inr (ow a h)
    · intro h
      by_cases z : OwnA (stOf vs) (envOf as) a
      · exact .inr z
      · exact .inl ⟨h, z⟩
  have la : Later (Lv P sg r) H (Lv (Rest P sg r vs as) (stOf vs) (envOf as)) H := fun a o h n => ⟨h, fun z => n ((lv a).mp z)⟩
  refine ⟨⟨?_, fun k x h => ?_, fun k x h => ?_, fun k x h => ?_, fun a h => S.lv a h.1, fun k j ys zs a h1 h2 h3 h4 => ?_, fun a z z' => z'.2 z⟩, lv⟩
  · have := (args_len hp ha).1
    unfold stOf envOf
    simpa using this
  · obtain ⟨o, y, v, e1, e2, e3, e4⟩ := args_get hp ha (envOf_get.mp h)
    refine ⟨v, stOf_get.mpr e2, ?_⟩
    cases o with
    | dc kvs => cases e4
    | ex m =>
      obtain ⟨d, rfl, q⟩ := e3
      cases e4
      exact q.mono la
    | sl i =>
      unfold argSl at e4
      simp only at e4
      split at e4
      · rename_i z e5
        cases e4
        obtain ⟨u, k1, k2⟩ := S.dat i _ e5
        have e3 : sg[i]? = some (some v) := e3
        rw [e3] at k1; cases k1
        exact k2.mono la
      · cases e4
  · obtain ⟨o, y, v, e1, e2, e3, e4⟩ := args_get hp ha (envOf_get.mp h)
    cases o with
    | dc kvs => cases e4
    | ex m => cases y <;> cases e4
    | sl i =>
      unfold argSl at e4
      simp only at e4
      split at e4
      · rename_i z e5
        cases e4
        obtain ⟨a, us, k1, k2, k3⟩ := S.own i _ e5
        have e3 : sg[i]? = some (some v) := e3
        rw [e3] at k1; cases k1
        exact ⟨a, us, stOf_get.mpr e2, k2, k3.mono la⟩
      · cases e4
  · obtain ⟨o, y, v, e1, e2, e3, e4⟩ := args_get hp ha (envOf_get.mp h)
    cases o with
    | dc kvs =>
      cases e4
      obtain ⟨a, vs, rfl, k1, k2, k3⟩ := e3
      exact ⟨a, stOf_get.mpr e2, vs, k1, k2, fun z => k3 z.1⟩
    | ex m => cases y <;> cases e4
    | sl i =>
      unfold argSl at e4
      simp only at e4
      split at e4
      · rename_i z e5
        cases e4
        obtain ⟨a, k1, k2⟩ := S.scr i _ e5
        have e3 : sg[i]? = some (some v) := e3
        rw [e3] at k1; cases k1
        refine ⟨a, stOf_get.mpr e2, k2.map fun ob k2 k3 => ⟨k2, fun z => ?_⟩⟩
        rcases z.1 with z | ⟨j, ws, j1, j2⟩
        · exact k3 z
        · obtain ⟨b, us, l1, l2, _⟩ := S.own j ws j1
          rw [j2] at l1; cases l1
          rw [k2] at l2; exact ob.no l2
      · cases e4
  · obtain ⟨i, e1, e2, e3⟩ := ownA_sub hp ha (envOf_get.mp h1) (stOf_get.mp h3)
    obtain ⟨i', e1', e2', e3'⟩ := ownA_sub hp ha (envOf_get.mp h2) (stOf_get.mp h4)
    have := S.sep i i' ys zs a e2 e2' e3 e3'
    subst this
    exact given_inj nd e1 (envOf_get.mp h1) e1' (envOf_get.mp h2)
theorem back_length : ∀ (os : List Opd) (as : List Sl) (r : DL.Env), (back os as r).length = r.length
  | [], _, r => rfl
  | _ :: _, [], r => rfl
  | o :: os, a :: as, r => by
    unfold back
    rw [back_length os as]
    unfold bk1
    split
    · rw [List.length_set]
    · rfl
/-- a slot behind a call -/
theorem back_get : ∀ {os : List Opd} {as as' : List Sl} {r : DL.Env} {j : Nat}, as'.length = as.length → (∀ (k : Nat) ys, as'[k]? = some (.own ys) → ∃ zs, as[k]? = some (.own zs)) → (given os as).Nodup → (∀ i ∈ given os as, i < r.length) →
    (∃ (k : Nat) (ys : List D), os[k]? = some (Opd.sl j) ∧ as'[k]? = some (Sl.own ys) ∧ (back os as' r)[j]? = some (some (Sl.own ys))) ∨ ((∀ (k : Nat) ys, os[k]? = some (.sl j) → as'[k]? ≠ some (.own ys)) ∧ (back os as' r)[j]? = r[j]?)
  | [], as, as', r, j, _, _, _, _ => .inr ⟨by simp, rfl⟩
  | o :: os, as, [], r, j, _, _, _, _ => .inr ⟨by simp, rfl⟩
  | o :: os, [], a :: as', r, j, h, _, _, _ => by simp at h
  | o :: os, b :: as, a :: as', r, j, hl, hs, nd, hr => by
    have hl' : as'.length = as.length := by simpa using hl
    have hs' : ∀ (k : Nat) ys, as'[k]? = some (.own ys) → ∃ zs, as[k]? = some (.own zs) := fun k ys h => by
      have := hs (k + 1) ys (by simpa using h)
      simpa using this
    have gsub : ∀ i ∈ given os as, i ∈ given (o :: os) (b :: as) := fun i hi => List.mem_append_right _ hi
    have nd' : (given os as).Nodup := (List.nodup_append.mp (show (gv1 o b ++ given os as).Nodup from nd)).2.1
    by_cases ho : ∃ i ys, o = .sl i ∧ a = .own ys
    · obtain ⟨i, ys, rfl, rfl⟩ := ho
      obtain ⟨zs, e0⟩ := hs 0 ys rfl
      simp at e0
      subst e0
      have eb : back (.sl i :: os) (.own ys :: as') r = back os as' (r.set i (some (.own ys))) := rfl
      have ni : i ∉ given os as := by
        simp only [given, gv1, List.cons_append, List.nil_append, List.nodup_cons] at nd
        exact nd.1
      have hi : i < r.length := hr i (by simp [given, gv1])
      rw [eb]
      rcases back_get (os := os) (as := as) (as' := as') (r := r.set i (some (.own ys))) (j := j) hl' hs' nd' (fun k hk => by rw [List.length_set]; exact hr k (gsub k hk)) with ⟨k, ws, k1, k2, k3⟩ | ⟨k1, k2⟩
      · exact .inl ⟨k + 1, ws, by simpa using k1, by simpa using k2, k3⟩
      · by_cases hij : i = j
        · subst hij
          refine .inl ⟨0, ys, rfl, rfl, ?_⟩
          rw [k2, List.getElem?_set_self hi]
        · refine .inr ⟨fun k ws h1 h2 => ?_, by rw [k2, List.getElem?_set_ne hij]⟩
          cases k with
          | zero => simp at h1; exact hij h1
          | succ k => exact k1 k ws (by simpa using h1) (by simpa using h2)
    · have eb : back (o :: os) (a :: as') r = back os as' r := by
        cases o with
        | dc kvs => rfl
        | ex m => rfl
        | sl i =>
          cases a with
          | own ys => exact absurd ⟨i, ys, rfl, rfl⟩ ho
          | d x => rfl
          | scr x => rfl
      rw [eb]
      rcases back_get (os := os) (as := as) (as' := as') (r := r) (j := j) hl' hs' nd' (fun k hk => hr k (gsub k hk)) with ⟨k, ws, k1, k2, k3⟩ | ⟨k1, k2⟩
      · exact .inl ⟨k + 1, ws, by simpa using k1, by simpa using k2, k3⟩
      · refine .inr ⟨fun k ws h1 h2 => ?_, k2⟩
        cases k with
        | zero => simp at h1 h2; exact ho ⟨j, ws, h1, h2⟩
        | succ k => exact k1 k ws (by simpa using h1) (by simpa using h2)
theorem given_own : ∀ {os : List Opd} {xs : List (Option D)} {vs : List V} {as : List Sl}, PendL K P sg os vs xs r H → args os xs r = some as → ∀ i ∈ given os as, ∃ ys, r[i]? = some (some (.own ys))
  | [], xs, vs, as, h, e, i, hi => by
    obtain ⟨rfl, rfl⟩ := h
    cases e
    simp [given] at hi
  | o :: os, _, _, as, ⟨v, vs', x, xs', rfl, rfl, h1, h2⟩, e, i, hi => by
    unfold args at e
    split at e
    · rename_i a0 e1
      split at e
      · rename_i as0 e2
        cases e
        have ih := given_own h2 e2
        cases o with
        | dc kvs => exact ih i hi
        | ex m => exact ih i hi
        | sl j =>
          cases a0 with
          | own ys =>
            rcases List.mem_cons.mp (show i ∈ j :: given os as0 from hi) with z | z
            · subst z
              unfold argSl at e1
              simp only at e1
              split at e1
              · rename_i y e5; cases e1; exact ⟨ys, e5⟩
              · cases e1
            · exact ih i z
          | d y => exact ih i hi
          | scr y => exact ih i hi
      · cases e
    · cases e
/-- back from a call -/
theorem caller_ext {P' : Addr → Prop} {os : List Opd} {xs : List (Option D)} {vs : List V} {as as' : List Sl} (S : Sim K P sg H r) (hp : PendL K P sg os vs xs r H) (ha : args os xs r = some as) (nd : (given os as).Nodup)
    (E : Ext K (Rest P sg r vs as) (stOf vs) (envOf as) H (envOf as') H') {N : Addr → Prop} (SN : Sim K (fun a => Rest P sg r vs as a ∨ N a) (stOf vs) H' (envOf as')) (hN : ∀ a, N a → H a = none) :
    Ext K P sg r H (back os as' r) H' ∧ Sim K (fun a => P a ∨ N a) sg H' (back os as' r) ∧ (∀ a, Lv (fun a => P a ∨ N a) sg (back os as' r) a ↔ Lv (fun a => Rest P sg r vs as a ∨ N a) (stOf vs) (envOf as') a) := by
  obtain ⟨CS, lv⟩ := callee_sim S hp ha nd
  have hl : as'.length = as.length := by
    have h1 := sim_len CS
    have h2 := sim_len E.sim
    omega
  have hs : ∀ (k : Nat) ys, as'[k]? = some (.own ys) → ∃ zs, as[k]? = some (.own zs) := fun k ys h => by
    obtain ⟨zs, e⟩ := (E.shape k).mp ⟨ys, envOf_get.mpr h⟩
    exact ⟨zs, envOf_get.mp e⟩
  have hs2 : ∀ (k : Nat) ys, as[k]? = some (.own ys) → ∃ zs, as'[k]? = some (.own zs) := fun k ys h => by
    obtain ⟨zs, e⟩ := (E.shape k).mpr ⟨ys, envOf_get.mpr h⟩
    exact ⟨zs, envOf_get.mp e⟩
  have hr : ∀ i ∈ given os as, i < r.length := fun i hi => by
    obtain ⟨ys, e⟩ := given_own hp ha i hi
    exact (List.getElem?_eq_some_iff.mp e).1
  have bg := fun j => back_get (r := r) (j := j) hl hs nd hr
  have lens := args_len hp ha
  have own_k : ∀ {k j : Nat} {ys : List D}, os[k]? = some (.sl j) → as'[k]? = some (.own ys) → ∃ zs a, as[k]? = some (.own zs) ∧ r[j]? = some (some (.own zs)) ∧ sg[j]? = some (some (.ref a)) ∧ vs[k]? = some (.ref a) := fun {k j ys} h1 h2 => by
    obtain ⟨zs, e⟩ := hs k ys h2
    obtain ⟨a, us, k1, _, _⟩ := CS.own k zs (envOf_get.mpr e)
    obtain ⟨i, e1, e2, e3⟩ := ownA_sub hp ha e (stOf_get.mp k1)
    rw [h1] at e1; cases e1
    exact ⟨zs, a, e, e2, e3, stOf_get.mp k1⟩
  have sh : ∀ j : Nat, (∃ xs, (back os as' r)[j]? = some (some (Sl.own xs))) ↔ ∃ xs, r[j]? = some (some (Sl.own xs)) := fun j => by
    rcases bg j with ⟨k, ys, k1, k2, k3⟩ | ⟨k1, k2⟩
    · obtain ⟨zs, a, e1, e2, _⟩ := own_k k1 k2
      exact ⟨fun _ => ⟨zs, e2⟩, fun _ => ⟨ys, k3⟩⟩
    · rw [k2]
  have ow : ∀ a, OwnA sg (back os as' r) a ↔ OwnA sg r a := fun a => by
    constructor
    · rintro ⟨i, ys, h1, h2⟩
      obtain ⟨ws, h⟩ := (sh i).mp ⟨ys, h1⟩
      exact ⟨i, ws, h, h2⟩
    · rintro ⟨i, ys, h1, h2⟩
      obtain ⟨ws, h⟩ := (sh i).mpr ⟨ys, h1⟩
      exact ⟨i, ws, h, h2⟩
  have lv2 : ∀ a, Lv (fun a => P a ∨ N a) sg (back os as' r) a ↔ Lv (fun a => Rest P sg r vs as a ∨ N a) (stOf vs) (envOf as') a := fun a => by
    have l := lv a
    constructor
    · rintro ((z | z) | z)
      · rcases l.mpr (.inl z) with q | q
        · exact .inl (.inl q)
        · exact .inr ((E.own a).mpr q)
      · exact .inl (.inr z)
      · rcases l.mpr (.inr ((ow a).mp z)) with q | q
        · exact .inl (.inl q)
        · exact .inr ((E.own a).mpr q)
    · rintro ((z | z) | z)
      · rcases z.1 with q | q
        · exact .inl (.inl q)
        · exact .inr ((ow a).mpr q)
      · exact .inl (.inr z)
      · rcases l.mp (.inr ((E.own a).mp z)) with q | q
        · exact .inl (.inl q)
        · exact .inr ((ow a).mpr q)
  have la : Later (Lv P sg r) H (Lv (fun a => P a ∨ N a) sg (back os as' r)) H' := fun a o h n => by
    refine ⟨E.keep a o h fun z => n ((lv a).mp (.inr z)), fun z => ?_⟩
    rcases z with (z | z) | z
    · exact n (.inl z)
    · rw [hN a z] at h; cases h
    · exact n (.inr ((ow a).mp z))
  have SB : Sim K (fun a => P a ∨ N a) sg H' (back os as' r) := by
    refine ⟨by rw [back_length]; exact S.len, fun j x h => ?_, fun j x h => ?_, fun j x h => ?_, fun a h => ?_, fun i j ys zs a h1 h2 h3 h4 => ?_, fun a z z' => ?_⟩
    · rcases bg j with ⟨k, ys, k1, k2, k3⟩ | ⟨k1, k2⟩
      · rw [k3] at h; cases h
      · rw [k2] at h
        obtain ⟨v, l1, l2⟩ := S.dat j x h
        exact ⟨v, l1, l2.mono la⟩
    · rcases bg j with ⟨k, ys, k1, k2, k3⟩ | ⟨k1, k2⟩
      · rw [k3] at h; cases h
        obtain ⟨zs, a, e1, e2, e3, e4⟩ := own_k k1 k2
        obtain ⟨a', us, l1, l2, l3⟩ := SN.own k x (envOf_get.mpr k2)
        rw [stOf_get.mpr e4] at l1; cases l1
        exact ⟨a, us, e3, l2, l3.mono fun a o h n => ⟨h, fun z => n ((lv2 a).mp z)⟩⟩
      · rw [k2] at h
        obtain ⟨a, us, l1, l2, l3⟩ := S.own j x h
        refine ⟨a, us, l1, E.keep a _ l2 fun z => ?_, l3.mono la⟩
        obtain ⟨k, ws, w1, w2⟩ := z
        obtain ⟨i, e1, e2, e3⟩ := ownA_sub hp ha (envOf_get.mp w1) (stOf_get.mp w2)
        have := S.sep i j ws x a e2 h e3 l1
        subst this
        obtain ⟨zs, e5⟩ := hs2 k ws (envOf_get.mp w1)
        exact k1 k zs e1 e5
    · rcases bg j with ⟨k, ys, k1, k2, k3⟩ | ⟨k1, k2⟩
      · rw [k3] at h; cases h
      · rw [k2] at h
        obtain ⟨a, l1, l2⟩ := S.scr j x h
        refine ⟨a, l1, l2.map fun o l2 l3 => ⟨E.keep a _ l2 fun z => ?_, fun z => z.elim l3 fun z => by rw [hN a z] at l2; cases l2⟩⟩
        rcases (lv a).mp (.inr z) with q | ⟨i, ws, w1, w2⟩
        · exact l3 q
        · obtain ⟨b, us, v1, v2, _⟩ := S.own i ws w1
          rw [w2] at v1; cases v1
          rw [l2] at v2; exact o.no v2
    · rcases h with h | h
      · rcases (lv a).mpr (.inl h) with q | q
        · exact SN.prot a (.inl q)
        · obtain ⟨o, e⟩ := SN.lv a (.inr ((E.own a).mpr q))
          exact ⟨o, e⟩
      · exact SN.prot a (.inr h)
    · obtain ⟨ys', f1⟩ := (sh i).mp ⟨ys, h1⟩
      obtain ⟨zs', f2⟩ := (sh j).mp ⟨zs, h2⟩
      exact S.sep i j ys' zs' a f1 f2 h3 h4
    · have z := (ow a).mp z
      rcases z' with z' | z'
      · exact S.nP a z z'
      · obtain ⟨o, e⟩ := S.lv a (.inr z)
        rw [hN a z'] at e; cases e
  exact ⟨⟨SB.less fun a h => .inl h, sh, fun a o h n => E.keep a o h fun z => by
    rcases (lv a).mp (.inr z) with q | q
    · obtain ⟨k, ws, w1, w2⟩ := z
      obtain ⟨i, e1, e2, e3⟩ := ownA_sub hp ha (envOf_get.mp w1) (stOf_get.mp w2)
      exact n ⟨i, ws, e2, e3⟩
    · exact n q⟩, SB, lv2⟩
end
section
variable {X : Cx} {k : Nat} {f : Addr} {fd : FuncData} {ps : List Str} {x : Str} {p pos : Pos} {e : Expr} {es : List Expr} {os : List Opd}
/-- a def of the text, found by its name -/
structure DefAt (X : Cx) (x : Str) (f : Addr) (fd : FuncData) (ps : List Str) : Prop where
  g : Gl X x
  m : X.mg x = some (.ref f)
  kp : PySem.W.keepIn X.K (.ref f) = true
  b : Binds X.K fd ps []
  db : (x == ("__debug__" : Str)) = false
theorem run_call {pins : List (Addr × Obj)} {sg : St} {H : Hp} {s : Shared} {Q : VK} {v : Value} {us : List Value} {kw : List (Str × Value)} (I : Inv X pins sg H s) (h : codeAny (model X.prog X.w) X.A (.call v ⟨us, kw⟩) (CR CX0 X.stack X.prog X.w H s Q E0) s) :
    wpAny (model X.prog X.w) X.A (call v us kw) (EP X pins sg Q) X.xe s := by
  refine wpAny_call (codeAny_mono h fun r s' hq => ?_)
  cases r with
  | error er => exact hq.elim
  | ok fl =>
    cases fl with
    | ret u => exact I.after hq
    | next => exact hq.elim
    | brk => exact hq.elim
    | cont => exact hq.elim
/-- a call's reading: what is done with the arguments -/
theorem ue_call {Q : VK} {sg : St} {H : Hp} (A : DefAt X x f fd ps) (N : NoStar X e es pos) (h : UA X (e :: es) sg H fun vs H1 => ∀ pins s us, Inv X pins sg H1 s → Vals vs us →
      us.length = ps.length ∧ codeAny (model X.prog X.w) X.A (.call (.ref f) ⟨us, []⟩) (CR CX0 X.stack X.prog X.w H1 s Q E0) s) : UE X (.Call (.Name x p) (e :: es) [] pos) sg H Q := by
  intro pins s I
  refine wpAny_Call_Name_kw (ld_glob I A.g A.m ?_ A.db)
  refine PySem.W.callWith_K (h₀ := X.base) I.ok.mod.kin A.kp (thn (h pos pins s I) fun us s1 q => ?_) N.he N.hpl
  obtain ⟨vs, H1, I1, r, q⟩ := q
  exact ⟨I1.kIn, run_call I1 (q pins s1 us I1 r).2⟩
theorem q7 {F : FSem} (A : DefAt X x f fd ps) (G : FnG X.prog X.w X.K X.mg X.base k f fd ps F) (hr : RoomG k X.A) (N : NoStar X e es pos) (hl : (e :: es).length = ps.length) (ho : OkAO X (e :: es) os) (hol : os.length = (e :: es).length) :
    OkE X (.Call (.Name x p) (e :: es) [] pos) (mFn F os) := by
  intro P sg H r Q d r' S hm hq
  unfold mFn at hm
  split at hm
  · rename_i xs r1 e1
    split at hm
    · rename_i as e2
      split at hm
      · rename_i nd
        split at hm
        · rename_i d0 as' e3
          cases hm
          refine ue_call A N (ho P sg H r _ xs r1 S e1 fun vs H1 E1 q1 => fun pins s us I rv => ?_)
          have hvl : vs.length = ps.length := by rw [(args_len q1 e2).1, ← (args_len q1 e2).2, hol, hl]
          have hul : us.length = ps.length := by rw [← rv.length]; exact hvl
          obtain ⟨CS, lv⟩ := callee_sim E1.sim q1 e2 nd
          refine ⟨hul, G.run X.A X.stack s H1 ⟨us, []⟩ us vs _ as as' d Q hr I.env0 ?_ rv hvl CS e3 fun v H2 E2 q2 => ?_⟩
          · have := A.b s us I.kIn (by rw [List.append_nil]; exact hul)
            rwa [List.append_nil] at this
          · obtain ⟨E3, _, lv3⟩ := caller_ext (P' := P) E1.sim q1 e2 nd E2 (N := fun _ => False) (E2.sim.less fun a h => h.elim id False.elim) (fun a h => h.elim)
            refine hq v H2 (E1.trans E3) (q2.mono fun a o h n => ⟨h, fun z => n ?_⟩)
            rcases (lv3 a).mp (z.elim (fun z => .inl (.inl z)) .inr) with (z | z) | z
            · exact .inl z
            · exact z.elim
            · exact .inr z
        · cases hm
      · cases hm
    · cases hm
  · cases hm
theorem okN_fn {F : FNew} (A : DefAt X x f fd ps) (G : FnN X.prog X.w X.K X.mg X.base k f fd ps F) (hr : RoomG k X.A) (N : NoStar X e es pos) (hl : (e :: es).length = ps.length) (ho : OkAO X (e :: es) os) (hol : os.length = (e :: es).length) :
    OkN X (.Call (.Name x p) (e :: es) [] pos) (nFn F os) := by
  intro P sg H r Q d r' S hm hq
  unfold nFn at hm
  split at hm
  · rename_i xs r1 e1
    split at hm
    · rename_i as e2
      split at hm
      · rename_i nd
        split at hm
        · rename_i d0 as' e3
          cases hm
          refine ue_call A N (ho P sg H r _ xs r1 S e1 fun vs H1 E1 q1 => fun pins s us I rv => ?_)
          have hvl : vs.length = ps.length := by rw [(args_len q1 e2).1, ← (args_len q1 e2).2, hol, hl]
          have hul : us.length = ps.length := by rw [← rv.length]; exact hvl
          obtain ⟨CS, lv⟩ := callee_sim E1.sim q1 e2 nd
          refine ⟨hul, G.run X.A X.stack s H1 ⟨us, []⟩ us vs _ as as' d Q hr I.env0 ?_ rv hvl CS e3 fun q ws H2 n => ?_⟩
          · have := A.b s us I.kIn (by rw [List.append_nil]; exact hul)
            rwa [List.append_nil] at this
          · obtain ⟨E3, S3, lv3⟩ := caller_ext (P' := P) E1.sim q1 e2 nd n.ext (N := fun a => a = q) n.sim (fun a h => by rw [h]; exact n.new)
            refine hq q ws H2 ⟨E1.trans E3, S3, E1.none n.new, n.here, n.rep.mono fun a o h k => ⟨h, fun z => k ((lv3 a).mp z)⟩⟩
        · cases hm
      · cases hm
    · cases hm
  · cases hm
end
end DL
namespace DL
open PySem PySem.Spec L2
section
variable {X : Cx} {e : Expr} {pos p : Pos}
def iEnum2 (o : Opd) : SA := fun r => match preAll [o] r with
  | some ([y], r') => match o.postR y r' with
    | some (.list xs) => some (enumD 0 xs, r')
    | some (.tuple xs) => some (enumD 0 xs, r')
    | _ => none
  | _ => none
end
end DL
namespace DL
open PySem PySem.Spec L2
theorem strOk_all {z : Str} : PyData.strOk z = true ↔ ∀ c ∈ z.cps.toList, c < 1114112 := by
  unfold PyData.strOk
  rw [← Array.all_toList, List.all_eq_true]
  simp
theorem strOk_ofString (s : String) : PyData.strOk (Str.ofString s) = true := by
  rw [strOk_all]
  intro c hc
  have e : (Str.ofString s).cps.toList = s.toList.map Char.toNat := cpsOfBytes_string s
  rw [e] at hc
  obtain ⟨ch, _, rfl⟩ := List.mem_map.mp hc
  have h := ch.valid
  simp only [UInt32.isValidChar, Nat.isValidChar] at h
  show ch.val.toNat < 1114112
  omega
theorem char_lt (ch : Char) : ch.toNat < 1114112 := by
  have h := ch.valid
  simp only [UInt32.isValidChar, Nat.isValidChar] at h
  show ch.val.toNat < 1114112
  omega
theorem reprChar_ok {q c : Nat} (hc : c < 1114112) : ∀ x ∈ Builtin.Str.reprChar q c, x < 1114112 := by
  have hx : ∀ (k : Nat), ∀ x ∈ List.replicate k 48 ++ (Nat.toDigits 16 c).map Char.toNat, x < 1114112 := fun k x h => by
    rcases List.mem_append.mp h with h | h
    · rw [(List.mem_replicate.mp h).2]; decide
    · obtain ⟨ch, _, rfl⟩ := List.mem_map.mp h
      exact char_lt ch
  unfold Builtin.Str.reprChar
  dsimp only
  intro x h
  split at h
  · simp at h; omega
  · split at h
    · simp at h; omega
    · split at h
      · simp at h; omega
      · split at h
        · simp at h; omega
        · split at h
          · simp at h; omega
          · split at h
            · rcases List.mem_append.mp h with h | h
              · simp at h; omega
              · exact hx _ x h
            · split at h
              · rcases List.mem_append.mp h with h | h
                · simp at h; omega
                · exact hx _ x h
              · rcases List.mem_append.mp h with h | h
                · simp at h; omega
                · exact hx _ x h
theorem foldl_repr_ok (q : Nat) : ∀ (l : List Nat) (acc : Array Nat), (∀ c ∈ l, c < 1114112) → (∀ c ∈ acc.toList, c < 1114112) → ∀ c ∈ (l.foldl (fun out c => out ++ (Builtin.Str.reprChar q c).toArray) acc).toList, c < 1114112
  | [], acc, _, h => h
  | d :: r, acc, hl, h => foldl_repr_ok q r _ (fun c hc => hl c (List.mem_cons_of_mem _ hc)) fun c hc => by
    rw [Array.toList_append] at hc
    rcases List.mem_append.mp hc with hc | hc
    · exact h c hc
    · exact reprChar_ok (hl d List.mem_cons_self) c (by simpa using hc)
theorem strOk_reprText {x : Str} (h : PyData.strOk x = true) : PyData.strOk (reprText x) = true := by
  rw [strOk_all] at h ⊢
  have hq : reprQuote x < 1114112 := by
    unfold reprQuote
    split <;> decide
  intro c hc
  unfold reprText at hc
  have hc : c ∈ ((x.cps.foldl (fun out c => out ++ (Builtin.Str.reprChar (reprQuote x) c).toArray) #[reprQuote x]).push (reprQuote x)).toList := hc
  rw [Array.toList_push, ← Array.foldl_toList] at hc
  rcases List.mem_append.mp hc with hc | hc
  · exact foldl_repr_ok _ _ _ h (by simpa using hq) c hc
  · rw [List.mem_singleton.mp hc]; exact hq
theorem strOk_textFrom : ∀ (ts : List Str) (k : Nat) (acc : Str), PyData.strOk acc = true → (∀ t ∈ ts, PyData.strOk t = true) → PyData.strOk (textFrom k acc ts) = true
  | [], k, acc, h, _ => h
  | t :: r, k, acc, h, hs => by
    unfold textFrom
    exact strOk_textFrom r (k + 1) _ (strOk_append (strOk_append h (by split <;> exact strOk_ofString _)) (hs t List.mem_cons_self)) fun u hu => hs u (List.mem_cons_of_mem _ hu)
theorem strOk_join {s : Str} (hs' : PyData.strOk s = true) : ∀ (ts : List Str), (∀ t ∈ ts, PyData.strOk t = true) → PyData.strOk (Str.join s ts) = true
  | [], _ => by unfold Str.join; decide +kernel
  | [x], h => h x List.mem_cons_self
  | x :: y :: r, h => strOk_append (strOk_append (h x List.mem_cons_self) hs') (strOk_join hs' (y :: r) fun u hu => h u (List.mem_cons_of_mem _ hu))
mutual
theorem strOk_shown : ∀ d : D, d.canLay0 = true → PyData.strOk d.shown = true
  | .none, _ => strOk_ofString "None"
  | .bool b, _ => by
    unfold PyData.shown
    cases b
    · exact strOk_ofString "False"
    · exact strOk_ofString "True"
  | .int i, _ => strOk_ofString _
  | .str x, h => strOk_reprText h
  | .list xs, h => by
    unfold PyData.shown
    exact strOk_append (strOk_textFrom _ _ _ (strOk_ofString "[") (strOk_shownAll xs h)) (strOk_ofString "]")
  | .tuple xs, h => by
    unfold PyData.shown
    exact strOk_append (strOk_append (strOk_ofString "(") (strOk_join (strOk_ofString ", ") _ (strOk_shownAll xs h))) (by split <;> exact strOk_ofString _)
  | .dict _, h => by cases h
theorem strOk_shownAll : ∀ ds : List D, PyData.canLayAll0 ds = true → ∀ t ∈ PyData.shownAll ds, PyData.strOk t = true
  | [], _, t, ht => by cases ht
  | d :: ds, h, t, ht => by
    have h' : d.canLay0 = true ∧ PyData.canLayAll0 ds = true := by
      have : (d.canLay0 && PyData.canLayAll0 ds) = true := h
      simpa using this
    unfold PyData.shownAll at ht
    rcases List.mem_cons.mp ht with e | e
    · rw [e]; exact strOk_shown d h'.1
    · exact strOk_shownAll ds h'.2 t e
end
mutual
def wt : D → Nat
  | .none => 4
  | .bool _ => 5
  | .int i => i.natAbs.log2 + 3
  | .str x => 10 * x.length + 2
  | .list xs => wtAll xs + 3
  | .tuple xs => wtAll xs + 3
  | .dict _ => 0
def wtAll : List D → Nat
  | [] => 0
  | x :: xs => wt x + 2 + wtAll xs
end
theorem len_append (x y : Str) : (x ++ y).length = x.length + y.length := by
  show (x.cps ++ y.cps).size = x.cps.size + y.cps.size
  exact Array.size_append
theorem textFrom_le : ∀ (ts : List Str) (k : Nat) (acc : Str), (textFrom k acc ts).length ≤ acc.length + (ts.map fun t => t.length + 2).sum
  | [], k, acc => by unfold textFrom; simp
  | t :: r, k, acc => by
    unfold textFrom
    have ih := textFrom_le r (k + 1) (acc ++ Str.ofString (if k > 0 then ", " else "") ++ t)
    rw [len_append, len_append] at ih
    have h2 : (Str.ofString (if k > 0 then ", " else "")).length ≤ 2 := by split <;> decide
    simp only [List.map_cons, List.sum_cons]
    omega
theorem join_le : ∀ (ts : List Str), (Str.join (Str.ofString ", ") ts).length ≤ (ts.map fun t => t.length + 2).sum
  | [] => by unfold Str.join; simp; rfl
  | [x] => by unfold Str.join; simp
  | x :: y :: r => by
    unfold Str.join
    have ih := join_le (y :: r)
    rw [len_append, len_append]
    have h2 : (Str.ofString ", ").length = 2 := by decide
    simp only [List.map_cons, List.sum_cons] at ih ⊢
    omega
theorem int_len (i : Int) : (Str.ofString (toString i)).length ≤ i.natAbs.log2 + 3 := by
  have e : (Str.ofString (toString i)).length = (toString i).length := by
    have h : (Str.ofString (toString i)).cps.toList = (toString i).toList.map Char.toNat := cpsOfBytes_string _
    show (Str.ofString (toString i)).cps.size = _
    rw [← Array.length_toList, h, List.length_map]
    exact String.length_toList
  rw [e]
  have h2 : (Nat.repr i.natAbs).length ≤ i.natAbs.log2 + 1 := nat_repr_length_le (by omega) (by exact Nat.lt_log2_self)
  cases i with
  | ofNat n => 
    have : (toString (Int.ofNat n)).length = (Nat.repr n).length := rfl
    rw [this]
    exact Nat.le_trans h2 (by omega)
  | negSucc n =>
    have e2 : toString (Int.negSucc n) = "-" ++ Nat.repr (n + 1) := rfl
    rw [e2, String.length_append]
    have : ("-" : String).length = 1 := rfl
    have h3 : (Nat.repr (n + 1)).length ≤ (Int.negSucc n).natAbs.log2 + 1 := h2
    omega
mutual
theorem shown_le : ∀ d : D, d.canLay0 = true → d.shown.length ≤ wt d
  | .none, _ => by decide
  | .bool b, _ => by cases b <;> decide
  | .int i, _ => int_len i
  | .str x, h => StrLaws.reprText_len x fun c hc => Nat.lt_trans (strOk_all.mp h c hc) (by decide)
  | .list xs, h => by
    unfold PyData.shown wt listText
    have h1 := textFrom_le (PyData.shownAll xs) 0 (Str.ofString "[")
    have h2 := shownAll_le xs h
    have h3 : (Str.ofString "[").length = 1 := by decide
    have h4 : (Str.ofString "]").length = 1 := by decide
    rw [len_append]
    omega
  | .tuple xs, h => by
    unfold PyData.shown wt tupleText
    have h1 := join_le (PyData.shownAll xs)
    have h2 := shownAll_le xs h
    have h3 : (Str.ofString "(").length = 1 := by decide
    have h4 : (Str.ofString (if (PyData.shownAll xs).length == 1 then ",)" else ")")).length ≤ 2 := by split <;> decide
    rw [len_append, len_append]
    omega
  | .dict _, h => by cases h
theorem shownAll_le : ∀ ds : List D, PyData.canLayAll0 ds = true → ((PyData.shownAll ds).map fun t => t.length + 2).sum ≤ wtAll ds
  | [], _ => by simp [PyData.shownAll, wtAll]
  | d :: ds, h => by
    have h' : d.canLay0 = true ∧ PyData.canLayAll0 ds = true := by
      have : (d.canLay0 && PyData.canLayAll0 ds) = true := h
      simpa using this
    have h1 := shown_le d h'.1
    have h2 := shownAll_le ds h'.2
    unfold PyData.shownAll wtAll
    simp only [List.map_cons, List.sum_cons]
    omega
end
def reprOk (d : D) : Bool := d.showable && decide (wt d ≤ 16000000) && flatD d
def fRepr : List D → Option D
  | [.list xs] => if reprOk (.list xs) then some (.str (PyData.shown (.list xs))) else none
  | [.tuple xs] => if reprOk (.tuple xs) then some (.str (PyData.shown (.tuple xs))) else none
  | [.none] => some (.str (PyData.shown .none))
  | [.bool b] => some (.str (PyData.shown (.bool b)))
  | [.int i] => if reprOk (.int i) then some (.str (PyData.shown (.int i))) else none
  | [.str x] => if reprOk (.str x) then some (.str (PyData.shown (.str x))) else none
  | _ => none
section
variable {X : Cx}
theorem reprOk_of {d : D} (h : reprOk d = true) (hl : d.canLay0 = true) : d.showable = true ∧ d.shown.length ≤ sizeLine ∧ d.depth ≤ 60 := by
  unfold reprOk flatD at h
  simp only [Bool.and_eq_true, decide_eq_true_eq] at h
  refine ⟨h.1.1, Nat.le_trans (shown_le d hl) ?_, h.2⟩
  rw [sizeLine_eq]
  omega
theorem repr_ref {P : Addr → Prop} {sg : St} {H : Hp} {r : DL.Env} {v : V} {d : D} {Q : VK} {a : Addr} (hu : X.A.units + 64 < cLine) (hg : X.A.guards = some []) (S : Sim X.K P sg H r) (hb : Bor true X.K (Lv P sg r) H v d) (ev : v = .ref a) (h : reprOk d = true)
    (hq : ∀ w H', Ext X.K P sg r H r H' → Rep X.K (Lv P sg r) H' w (.str d.shown) → Q w H') : caB X (.builtin "repr") [v] H Q := by
  subst ev
  obtain ⟨h1, h2, h3⟩ := reprOk_of h hb.lay
  refine ⟨fun vs H' Q' => vs = [.ref a] ∧ H' = H ∧ Q' = Q, ?_, rfl, rfl, rfl⟩
  rintro pins s sg' H' vs us Q' I rv ⟨rfl, rfl, rfl⟩
  obtain ⟨u, rfl, ru⟩ := vals1 rv
  cases ru
  obtain ⟨as, rd⟩ := Dp.reads I d _ _ hb.dp rfl
  refine repr_of_reads' rd h1 (PyData.noDict_hsm (PyData.hasDict_of_canLay d hb.lay)) hg (by omega) (fun _ _ q => q) (fun h' u tk hk => ?_) h2
  exact ⟨.str d.shown, H', I.kept hk, ⟨u, rfl⟩, hq _ _ (Ext.refl S) (.str _ (strOk_shown d hb.lay))⟩
theorem callS_repr (hu : X.A.units + 64 < cLine) (hg : X.A.guards = some []) : CallS true X (.builtin "repr") fRepr := by
  intro P sg H r vs ds z Q S hb hz hq
  have scal : ∀ {v : V} {d : D}, Bor true X.K (Lv P sg r) H v d → (∀ pins s sg' H' u, Inv X pins sg' H' s → RelV v u → d.shown.length ≤ sizeLine → ∀ (Q0 : Value → Shared → Prop), Q0 (.str d.shown s.toks) { s with toks := s.toks + 1 } → wpAny (model X.prog X.w) X.A (call (.builtin "repr") [u]) Q0 X.xe s) →
      d.shown.length ≤ sizeLine → (∀ w H', Ext X.K P sg r H r H' → Rep X.K (Lv P sg r) H' w (.str d.shown) → Q w H') → caB X (.builtin "repr") [v] H Q := fun {v d} hb hrun hl hq => by
    refine ⟨fun vs H' Q' => vs = [v] ∧ H' = H ∧ Q' = Q, ?_, rfl, rfl, rfl⟩
    rintro pins s sg' H' vs us Q' I rv ⟨rfl, rfl, rfl⟩
    obtain ⟨u, rfl, ru⟩ := vals1 rv
    exact hrun pins s sg' _ u I ru hl _ ⟨.str d.shown, _, I.tok _, ⟨_, rfl⟩, hq _ _ (Ext.refl S) (.str _ (strOk_shown d hb.lay))⟩
  unfold fRepr at hz
  split at hz
  · split at hz
    · rename_i h
      cases hz
      obtain ⟨v, rfl, hb1⟩ := hb.one
      obtain ⟨a, us, ev, _⟩ := hb1.list
      exact repr_ref hu hg S hb1 ev h hq
    · cases hz
  · split at hz
    · rename_i h
      cases hz
      obtain ⟨v, rfl, hb1⟩ := hb.one
      obtain ⟨a, us, ev, _⟩ := hb1.tuple
      exact repr_ref hu hg S hb1 ev h hq
    · cases hz
  · cases hz
    obtain ⟨v, rfl, hb1⟩ := hb.one
    refine scal hb1 (fun pins s sg' H' u I ru hl Q0 q => ?_) (by decide) hq
    cases hb1.none
    cases ru
    exact PySem.P.repr_of_none q
  · rename_i b
    cases hz
    obtain ⟨v, rfl, hb1⟩ := hb.one
    refine scal hb1 (fun pins s sg' H' u I ru hl Q0 q => ?_) (by cases b <;> decide) hq
    cases hb1.bool
    cases ru
    refine PySem.P.repr_of_bool ?_
    cases b <;> exact q
  · split at hz
    · rename_i h
      cases hz
      obtain ⟨v, rfl, hb1⟩ := hb.one
      obtain ⟨h1, h2, _⟩ := reprOk_of h hb1.lay
      refine scal hb1 (fun pins s sg' H' u I ru hl Q0 q => ?_) h2 hq
      cases hb1.int
      obtain ⟨t, rfl⟩ := ru
      exact PySem.P.repr_of_int (of_decide_eq_true h1) q
    · cases hz
  · split at hz
    · rename_i h
      cases hz
      obtain ⟨v, rfl, hb1⟩ := hb.one
      obtain ⟨h1, h2, _⟩ := reprOk_of h hb1.lay
      refine scal hb1 (fun pins s sg' H' u I ru hl Q0 q => ?_) h2 hq
      cases hb1.str.1
      obtain ⟨t, rfl⟩ := ru
      exact PySem.P.repr_of_str q hl
    · cases hz
  · cases hz
end
end DL
namespace DL
open PySem PySem.Spec L2
section
variable {X : Cx} {e : Expr} {pos apos cpos px : Pos} {x : Str} {i : Nat}
def mAppend (i : Nat) (m : SE) : SE := fun r => if notOwn r i then none else match m r with
  | some (y, r1) => match r1[i]? with
    | some (some (.own xs)) => if xs.length < sizeLine then some (.none, r1.set i (some (.own (xs ++ [y])))) else none
    | _ => none
  | none => none
theorem okE_append {m : SE} (hN : X.N[i]? = some x) (hv : Vis X.env.scope x) (hd : (x == ("__debug__" : Str)) = false) (hcd : (x == ("__classdict__" : Str)) = false) (h : OkE X e m) (hs : starEach [e] X.env = (false, eval e X.env) :: starEach [] X.env) (hline : (apos.endLine == cpos.line) = true) :
    OkE X (.Call (.Attribute (.Name x px) "append" apos) [e] [] cpos) (mAppend i m) := by
  intro P sg H r Q d r' S hm hq
  unfold mAppend at hm
  split at hm
  · cases hm
  rename_i h0
  have e0 : ∃ zs, r[i]? = some (some (Sl.own zs)) := Classical.byContradiction fun z => h0 (notOwn_iff z)
  obtain ⟨zs, e0⟩ := e0
  split at hm
  · rename_i y r1 e1
    split at hm
    · rename_i xs e2
      split at hm
      · rename_i hl
        cases hm
        obtain ⟨p, us, p1, p2, p3⟩ := S.own i zs e0
        refine UE.of (pe_bm PySem.F.plainAttrs_list PySem.F.slot_list_append PySem.F.type_list_append mt_append (pe_var hN hv hd hcd) (pa_cons UE.pe pa_nil hs) rfl (by rw [hs]; rfl) hline hs rfl) ?_
        refine ⟨_, p1, .inl ⟨rfl, us, SqL.of p2⟩, h P sg H r _ y r1 S e1 fun v H1 E1 q1 => ?_⟩
        obtain ⟨p', us', p1', p2', p3'⟩ := E1.sim.own i xs e2
        rw [p1] at p1'; cases p1'
        exact ⟨p, us', v, rfl, rfl, p2', by rw [p3'.length]; exact hl, hq _ _ (E1.trans (E1.sim.updOwn e2 p1 (p3'.append (.cons q1 .nil)))) .non⟩
      · cases hm
    · cases hm
  · cases hm
end
inductive Av where
  | d (m : SE) | n (m : SA)
def avs : List Av → DL.Env → Option (List Sl × DL.Env)
  | [], r => some ([], r)
  | .d m :: as, r => match m r with
    | some (x, r1) => match avs as r1 with | some (sl, r2) => some (.d x :: sl, r2) | none => none
    | none => none
  | .n m :: as, r => match m r with
    | some (x, r1) => match avs as r1 with | some (sl, r2) => some (.own x :: sl, r2) | none => none
    | none => none
inductive AvR (K : PySem.W.Frag) (L : Addr → Prop) (H : Hp) : List V → List Sl → List Addr → Prop
  | nil : AvR K L H [] [] []
  | d {v : V} {x : D} {vs : List V} {sl : List Sl} {N : List Addr} : Rep K L H v x → AvR K L H vs sl N → AvR K L H (v :: vs) (.d x :: sl) N
  | n {p : Addr} {us vs : List V} {xs : List D} {sl : List Sl} {N : List Addr} : H p = some (.lst us) → RepL K L H us xs → AvR K L H vs sl N → AvR K L H (.ref p :: vs) (.own xs :: sl) (p :: N)
abbrev Also (P : Addr → Prop) (N : List Addr) : Addr → Prop := fun a => P a ∨ a ∈ N
theorem AvR.mono {K : PySem.W.Frag} {L L' : Addr → Prop} {H : Hp} (m : Later L H L' H) : ∀ {vs : List V} {sl : List Sl} {N : List Addr}, AvR K L H vs sl N → AvR K L' H vs sl N
  | _, _, _, .nil => .nil
  | _, _, _, .d r t => .d (r.mono m) (AvR.mono m t)
  | _, _, _, .n h r t => .n h (r.mono m) (AvR.mono m t)
structure AvP (K : PySem.W.Frag) (P : Addr → Prop) (sg : St) (r : DL.Env) (H : Hp) (r' : DL.Env) (H' : Hp) (vs : List V) (sl : List Sl) (N : List Addr) : Prop where
  ext : Ext K P sg r H r' H'
  sim : Sim K (Also P N) sg H' r'
  new : ∀ p ∈ N, H p = none
  nd : N.Nodup
  val : AvR K (Lv (Also P N) sg r') H' vs sl N
def OkAv (X : Cx) (es : List Expr) (as : List Av) : Prop := ∀ (P : Addr → Prop) (sg : St) (H : Hp) (r : DL.Env) (Q : List V → Hp → Prop) (sl : List Sl) (r' : DL.Env), Sim X.K P sg H r → avs as r = some (sl, r') →
  (∀ vs N H', AvP X.K P sg r H r' H' vs sl N → Q vs H') → UA X es sg H Q
section
variable {X : Cx} {e : Expr} {es : List Expr}
theorem okAv_nil : OkAv X [] [] := by
  intro P sg H r Q sl r' S hm hq
  cases hm
  exact UA.of pa_nil (hq [] [] H ⟨Ext.refl S, S.less fun a h => h.elim id (fun z => nomatch z), (fun _ h => nomatch h), List.nodup_nil, .nil⟩)
theorem Ext.less {K : PySem.W.Frag} {P P' : Addr → Prop} {sg : St} {r r' : DL.Env} {H H' : Hp} (E : Ext K P sg r H r' H') (h : ∀ a, P' a → P a) : Ext K P' sg r H r' H' := ⟨E.sim.less h, E.shape, E.keep⟩
theorem AvP.later {K : PySem.W.Frag} {P : Addr → Prop} {sg : St} {r r' : DL.Env} {H H' : Hp} {vs : List V} {sl : List Sl} {N : List Addr} (A : AvP K P sg r H r' H' vs sl N) : Later (Lv P sg r) H (Lv (Also P N) sg r') H' := fun a o h n =>
  ⟨A.ext.keep a o h fun z => n (.inr z), fun z => z.elim (fun z => z.elim (fun z => n (.inl z)) fun z => by rw [A.new a z] at h; cases h) fun z => n (.inr ((A.ext.own a).mp z))⟩
theorem okAv_d {m : SE} {as : List Av} (h : OkE X e m) (hn : OkAv X es as) (hs : starEach (e :: es) X.env = (false, eval e X.env) :: starEach es X.env) : OkAv X (e :: es) (.d m :: as) := by
  intro P sg H r Q sl r' S hm hq
  unfold avs at hm
  split at hm
  · rename_i x r1 e1
    split at hm
    · rename_i sl1 r2 e2
      cases hm
      refine UA.of (pa_cons UE.pe UA.pa hs) (h P sg H r _ x r1 S e1 fun v H1 E1 q1 => hn P sg H1 r1 _ sl1 _ E1.sim e2 fun vs N H2 A => ?_)
      exact hq (v :: vs) N H2 ⟨E1.trans A.ext, A.sim, fun p hp => E1.none (A.new p hp), A.nd, .d (q1.mono A.later) A.val⟩
    · cases hm
  · cases hm
theorem okAv_n {m : SA} {as : List Av} (h : OkN X e m) (hn : OkAv X es as) (hs : starEach (e :: es) X.env = (false, eval e X.env) :: starEach es X.env) : OkAv X (e :: es) (.n m :: as) := by
  intro P sg H r Q sl r' S hm hq
  unfold avs at hm
  split at hm
  · rename_i x r1 e1
    split at hm
    · rename_i sl1 r2 e2
      cases hm
      refine UA.of (pa_cons UE.pe UA.pa hs) (h P sg H r _ x r1 S e1 fun p us H1 n => hn (With P p) sg H1 r1 _ sl1 _ n.sim e2 fun vs N H2 A => ?_)
      have now : ¬ OwnA sg r1 p := fun z => n.sim.nP p z (.inr rfl)
      have la := A.later
      have cg : ∀ a, Also P (p :: N) a → Also (With P p) N a := fun a h => by
        rcases h with h | h
        · exact .inl (.inl h)
        · rcases List.mem_cons.mp h with h | h
          · exact .inl (.inr h)
          · exact .inr h
      have lc : Later (Lv (Also (With P p) N) sg r') H2 (Lv (Also P (p :: N)) sg r') H2 := fun a o h k => ⟨h, fun z => k (z.elim (fun z => .inl (cg a z)) .inr)⟩
      refine hq (.ref p :: vs) (p :: N) H2 ⟨n.ext.trans (A.ext.less fun a h => .inl h), A.sim.less cg, fun q hq' => ?_, List.nodup_cons.mpr ⟨fun z => ?_, A.nd⟩, .n (A.ext.keep p _ n.here now) ((n.rep.mono la).mono lc) (A.val.mono lc)⟩
      · rcases List.mem_cons.mp hq' with z | z
        · rw [z]; exact n.new
        · exact n.ext.none (A.new q z)
      · have := A.new p z
        rw [n.here] at this; cases this
    · cases hm
  · cases hm
def setsS : List Nat → List V → St → St
  | i :: is, v :: vs, s => setsS is vs (s.set i (some v))
  | _, _, s => s
def setsE : List Nat → List Sl → DL.Env → DL.Env
  | i :: is, v :: vs, s => setsE is vs (s.set i (some v))
  | _, _, s => s
theorem setsS_out : ∀ {is : List Nat} {vs : List V} {s : St} {j : Nat}, j ∉ is → (setsS is vs s)[j]? = s[j]?
  | [], _, s, j, _ => by cases ‹List V› <;> rfl
  | i :: is, [], s, j, _ => rfl
  | i :: is, v :: vs, s, j, h => by
    unfold setsS
    rw [setsS_out fun z => h (List.mem_cons_of_mem _ z), List.getElem?_set_ne fun z => h (by rw [z]; exact List.mem_cons_self)]
theorem sets_sim {K : PySem.W.Frag} {P : Addr → Prop} {H : Hp} {L : Addr → Prop} {vs : List V} {sl : List Sl} {N : List Addr} (A : AvR K L H vs sl N) : ∀ {L' : Addr → Prop} {is : List Nat} {sg : St} {r : DL.Env}, Sim K (Also P N) sg H r → L' = Lv (Also P N) sg r → Later L H L' H → is.length = sl.length → (∀ i ∈ is, i < r.length) → N.Nodup → (∀ p ∈ N, ¬ P p) →
    Sim K P (setsS is vs sg) H (setsE is sl r) ∧ ∀ a, OwnA (setsS is vs sg) (setsE is sl r) a → OwnA sg r a ∨ a ∈ N := by
  induction A with
  | nil =>
    intro L' is sg r S hL' hLL hl hi nd np
    cases is with
    | nil => exact ⟨S.less fun a h => .inl h, fun a h => .inl h⟩
    | cons i is => cases hl
  | @d v x vs sl N q t ih =>
    intro L' is sg r S hL' hLL hl hi nd np
    subst hL'
    cases is with
    | nil => cases hl
    | cons i is =>
      obtain ⟨S1, o1⟩ := S.setD (hi i List.mem_cons_self) (q.mono hLL)
      have la : Later (Lv (Also P N) sg r) H (Lv (Also P N) (sg.set i (some v)) (r.set i (some (.d x)))) H := fun a o h n => ⟨h, fun z => n (z.elim .inl fun z => .inr (o1 a z))⟩
      obtain ⟨S2, o2⟩ := ih (is := is) S1 rfl (hLL.trans la) (by simpa using hl) (fun j hj => by rw [List.length_set]; exact hi j (List.mem_cons_of_mem _ hj)) nd np
      exact ⟨S2, fun a h => (o2 a h).elim (fun z => .inl (o1 a z)) .inr⟩
  | @n p us vs xs sl N h q t ih =>
    intro L' is sg r S hL' hLL hl hi nd np
    subst hL'
    cases is with
    | nil => cases hl
    | cons i is =>
      have nd' := List.nodup_cons.mp nd
      have cg : ∀ a, With (Also P N) p a → Also P (p :: N) a := fun a h => by
        rcases h with (h | h) | h
        · exact .inl h
        · exact .inr (List.mem_cons_of_mem _ h)
        · exact .inr (by rw [h]; exact List.mem_cons_self)
      have cg' : ∀ a, Also P (p :: N) a → With (Also P N) p a := fun a h => by
        rcases h with h | h
        · exact .inl (.inl h)
        · rcases List.mem_cons.mp h with h | h
          · exact .inr h
          · exact .inl (.inr h)
      have lc : Later (Lv (Also P (p :: N)) sg r) H (Lv (With (Also P N) p) sg r) H := fun a o h k => ⟨h, fun z => k (z.elim (fun z => .inl (cg a z)) .inr)⟩
      obtain ⟨S1, o1⟩ := (S.less cg).setOwn (hi i List.mem_cons_self) (fun z => z.elim (np p List.mem_cons_self) nd'.1) h ((q.mono hLL).mono lc)
      have la : Later (Lv (Also P (p :: N)) sg r) H (Lv (Also P N) (sg.set i (some (.ref p))) (r.set i (some (.own xs)))) H := fun a o h n => ⟨h, fun z => n (by
        rcases z with z | z
        · exact .inl (cg a (.inl z))
        · rcases o1 a z with z | z
          · exact .inr z
          · exact .inl (cg a (.inr z)))⟩
      obtain ⟨S2, o2⟩ := ih (is := is) S1 rfl (hLL.trans la) (by simpa using hl) (fun j hj => by rw [List.length_set]; exact hi j (List.mem_cons_of_mem _ hj)) nd'.2 (fun q hq => np q (List.mem_cons_of_mem _ hq))
      refine ⟨S2, fun a h => ?_⟩
      rcases o2 a h with z | z
      · rcases o1 a z with z | z
        · exact .inl z
        · exact .inr (by rw [z]; exact List.mem_cons_self)
      · exact .inr (List.mem_cons_of_mem _ z)
def sPar (is : List Nat) (as : List Av) : SS := fun r => match avs as r with
  | some (sl, r1) => if decide (is.length = sl.length) && is.all (fun i => decide (i < r1.length)) then some (.nx, setsE is sl r1) else none
  | none => none
theorem okS_par {io is : List Nat} {st : Stmt} {as : List Av} (h : OkAv X es as) (hio : ∀ i ∈ io, i ∉ is) (hT : ∀ (E : Ends) (sg : St) (H : Hp), (UA X es sg H fun vs H1 => vs.length = is.length ∧ E.nx (setsS is vs sg) H1) → US X st E sg H) : OkS X io st (sPar is as) := by
  intro P sg H r E f r' S hm hp
  unfold sPar at hm
  split at hm
  · rename_i sl r1 e1
    split at hm
    · rename_i hc
      cases hm
      simp only [Bool.and_eq_true, decide_eq_true_eq, List.all_eq_true] at hc
      refine hT E sg H (h P sg H r _ sl r1 S e1 fun vs N H1 A => ⟨?_, ?_⟩)
      · have len : ∀ {vs : List V} {sl : List Sl} {N : List Addr}, AvR X.K (Lv (Also P N) sg r1) H1 vs sl N → vs.length = sl.length := by
          intro vs sl N h
          generalize Lv (Also P N) sg r1 = L at h
          induction h with
          | nil => rfl
          | d _ _ ih => simp [ih]
          | n _ _ _ ih => simp [ih]
        rw [len A.val, hc.1]
      · obtain ⟨S2, o2⟩ := sets_sim A.val A.sim rfl (fun a o h n => ⟨h, n⟩) hc.1 hc.2 A.nd (fun p hp' z => by obtain ⟨o, e⟩ := S.prot p z; rw [A.new p hp'] at e; cases e)
        refine hp _ H1 ⟨S2, fun a o h n => ⟨A.ext.keep a o h n, fun z => ?_⟩, fun i hi => setsS_out (hio i hi), fun a h => A.ext.none h⟩
        rcases o2 a z with z | z
        · exact n ((A.ext.own a).mp z)
        · rw [A.new a z] at h; cases h
    · cases hm
  · cases hm
theorem par2 {i j : Nat} {x y : Str} {a b : Expr} {p1 p2 pt pos : Pos} {kt k2 : Nat} {pt2 : Pos} (hc : X.calm = true) (hN : X.N.Nodup) (hi : X.N[i]? = some x) (hj : X.N[j]? = some y) (hij : i ≠ j) (hx : X.env.scope.names.lookup x = some .local) (hy : X.env.scope.names.lookup y = some .local)
    (hw : swappedStores [.Tuple [.Name x p1, .Name y p2] kt pt] (.Tuple [a, b] k2 pt2) X.env = pure (some [x, y])) (hs : swapsWithSole [.Tuple [.Name x p1, .Name y p2] kt pt] (.Tuple [a, b] k2 pt2) pos.line X.env = pure false) :
    ∀ (E : Ends) (sg : St) (H : Hp), (UA X [a, b] sg H fun vs H1 => vs.length = [i, j].length ∧ E.nx (setsS [i, j] vs sg) H1) → US X (.Assign [.Tuple [.Name x p1, .Name y p2] kt pt] (.Tuple [a, b] k2 pt2) pos) E sg H := fun E sg H h => by
  refine US.of (ps_par hc hN hi hj hij hx hy (PA.mk (fun ps pins s sg' H' Q' I (h : UA X [a, b] sg' H' Q') => h ps pins s I)) hw hs) ?_
  intro ps pins s I
  refine wpAny_mono (h ps pins s I) (fun us s1 q => ?_) fun _ _ z => z
  obtain ⟨vs, H1, I1, r1, hl, q⟩ := q
  refine ⟨vs, H1, I1, r1, ?_⟩
  match vs, hl, q with
  | [v, w], _, q => exact ⟨v, w, rfl, q⟩
theorem par3 {i j l : Nat} {x y z : Str} {a b c : Expr} {p1 p2 p3 pt pos : Pos} {kt k2 : Nat} {pt2 : Pos} (hc : X.calm = true) (hN : X.N.Nodup) (hi : X.N[i]? = some x) (hj : X.N[j]? = some y) (hl : X.N[l]? = some z) (hij : i ≠ j) (hil : i ≠ l) (hjl : j ≠ l)
    (hx : X.env.scope.names.lookup x = some .local) (hy : X.env.scope.names.lookup y = some .local) (hz : X.env.scope.names.lookup z = some .local)
    (hw : swappedStores [.Tuple [.Name x p1, .Name y p2, .Name z p3] kt pt] (.Tuple [a, b, c] k2 pt2) X.env = pure (some [x, y, z])) (hs : swapsWithSole [.Tuple [.Name x p1, .Name y p2, .Name z p3] kt pt] (.Tuple [a, b, c] k2 pt2) pos.line X.env = pure false) :
    ∀ (E : Ends) (sg : St) (H : Hp), (UA X [a, b, c] sg H fun vs H1 => vs.length = [i, j, l].length ∧ E.nx (setsS [i, j, l] vs sg) H1) → US X (.Assign [.Tuple [.Name x p1, .Name y p2, .Name z p3] kt pt] (.Tuple [a, b, c] k2 pt2) pos) E sg H := fun E sg H h => by
  refine US.of (ps_par3 hc hN hi hj hl hij hil hjl hx hy hz (PA.mk (fun ps pins s sg' H' Q' I (h : UA X [a, b, c] sg' H' Q') => h ps pins s I)) hw hs) ?_
  intro ps pins s I
  refine wpAny_mono (h ps pins s I) (fun us s1 q => ?_) fun _ _ z => z
  obtain ⟨vs, H1, I1, r1, hl, q⟩ := q
  refine ⟨vs, H1, I1, r1, ?_⟩
  match vs, hl, q with
  | [u, v, w], _, q => exact ⟨u, v, w, rfl, q⟩
theorem okE_fnk {k : Nat} {f : Addr} {fd : FuncData} {x q : Str} {F : FSem} {p pos kpos : Pos} {o : Opd} (A : DefAt X x f fd [q]) (hbk : ∀ (s : Shared) (u : Value), X.K.In s.heap → BindsTo s fd ⟨[], [(q, u)]⟩ [(q, u)]) (G : FnG X.prog X.w X.K X.mg X.base k f fd [q] F) (hr : RoomG k X.A) (ho : OkO X e o) :
    OkE X (.Call (.Name x p) [] [⟨some q, e, kpos⟩] pos) (mFn F [o]) := by
  intro P sg H r Q d r' S hm hq
  unfold mFn at hm
  split at hm
  · rename_i xs r1 e1
    split at hm
    · rename_i as e2
      split at hm
      · rename_i nd
        split at hm
        · rename_i d0 as' e3
          cases hm
          intro pins s I
          refine wpAny_Call_Name_kw (ld_glob I A.g A.m ?_ A.db)
          unfold preAll at e1
          split at e1
          · rename_i h0
            split at e1
            · rename_i y r2 e4
              have e5 : xs = [y] ∧ r1 = r2 := by
                simp only [preAll] at e1
                cases e1
                exact ⟨rfl, rfl⟩
              obtain ⟨rfl, rfl⟩ := e5
              refine PySem.W.callWith_KW0 (h₀ := X.base) (kws := [⟨some q, e, kpos⟩]) I.ok.mod.kin A.kp rfl ?_ rfl
              have hk : PK X [⟨some q, e, kpos⟩] (tCons (UE X e) tNil) := pk_cons UE.pe pk_nil
              refine thn (hk.run pos pins s sg H (fun vs H2 => ∀ pins s us, Inv X pins sg H2 s → Vals vs us → codeAny (model X.prog X.w) X.A (.call (.ref f) ⟨[], [q].zip us⟩) (CR CX0 X.stack X.prog X.w H2 s Q E0) s) I ?_) fun us s1 q0 => ?_
              · refine ho P sg H r _ _ _ S e4 (fun v H1 E1 q1 => fun pins s us I rv => ?_) (here_of h0)
                have qp : PendL X.K P sg [o] [v] [y] r1 H1 := ⟨v, [], y, [], rfl, rfl, q1, rfl, rfl⟩
                obtain ⟨u, rfl, ru⟩ := vals1 rv
                obtain ⟨CS, lv⟩ := callee_sim E1.sim qp e2 nd
                refine G.run X.A X.stack s H1 ⟨[], [(q, u)]⟩ [u] [v] _ as as' d Q hr I.env0 (hbk s u I.kIn) rv rfl CS e3 fun w H2 E2 q2 => ?_
                obtain ⟨E3, _, lv3⟩ := caller_ext (P' := P) E1.sim qp e2 nd E2 (N := fun _ => False) (E2.sim.less fun a h => h.elim id False.elim) (fun a h => h.elim)
                refine hq w H2 (E1.trans E3) (q2.mono fun a ob h n => ⟨h, fun z => n ?_⟩)
                rcases (lv3 a).mp (z.elim (fun z => .inl (.inl z)) .inr) with (z | z) | z
                · exact .inl z
                · exact z.elim
                · exact .inr z
              · obtain ⟨vs, H1, I1, rv, q1⟩ := q0
                exact ⟨I1.kIn, run_call I1 (q1 pins s1 us I1 rv)⟩
            · cases e1
          · cases e1
        · cases hm
      · cases hm
    · cases hm
  · cases hm
end
end DL
namespace DL
open PySem PySem.Spec L2
structure Sc (X : Cx) (N : List Str) (sc : Scope) : Prop where
  n : X.N = N
  s : X.env.scope = sc
def visB (sc : Scope) (x : Str) : Bool := match sc.names.lookup x with
  | some .local => true
  | some .cell => true
  | some .free => true
  | _ => false
def locB (sc : Scope) (x : Str) : Bool := match sc.names.lookup x with
  | some .local => true
  | _ => false
def gloB (sc : Scope) (x : Str) : Bool := match sc.names.lookup x with
  | some .globalImplicit => true
  | _ => false
def nmB (N : List Str) (sc : Scope) (i : Nat) (x : Str) : Bool := decide (N[i]? = some x) && visB sc x && !(x == ("__debug__" : Str)) && !(x == ("__classdict__" : Str))
theorem visB_ok {sc : Scope} {x : Str} (h : visB sc x = true) : Vis sc x := by
  unfold visB at h
  split at h
  · rename_i e; exact .inl e
  · rename_i e; exact .inr (.inl e)
  · rename_i e; exact .inr (.inr e)
  · cases h
theorem locB_ok {sc : Scope} {x : Str} (h : locB sc x = true) : sc.names.lookup x = some .local := by
  unfold locB at h
  split at h
  · assumption
  · cases h
theorem gloB_ok {sc : Scope} {x : Str} (h : gloB sc x = true) : sc.names.lookup x = some .globalImplicit := by
  unfold gloB at h
  split at h
  · assumption
  · cases h
section
variable {X : Cx} {N : List Str} {sc : Scope} {pos p : Pos} {x : Str} {i : Nat} {e : Expr} {es : List Expr}
theorem nmB_ok (h : nmB N sc i x = true) : N[i]? = some x ∧ Vis sc x ∧ (x == ("__debug__" : Str)) = false ∧ (x == ("__classdict__" : Str)) = false := by
  unfold nmB at h
  simp only [Bool.and_eq_true, decide_eq_true_eq, Bool.not_eq_true'] at h
  exact ⟨h.1.1.1, visB_ok h.1.1.2, h.1.2, h.2⟩
theorem Sc.blk (C : Sc X N sc) {scope : Scope} {s0 : Shared} {H0 : Hp} {C0 : Addr} {cl : List (Str × Addr)} {fp : List Addr} : Sc (Cx.inBlk X scope s0 H0 C0 cl fp) N (relS scope sc) := ⟨C.n, by rw [← C.s]; rfl⟩
theorem Sc.gl (C : Sc X N sc) (h : gloB sc x = true) : Gl X x := by
  show X.env.scope.names.lookup x = _
  rw [C.s]; exact gloB_ok h
theorem Sc.v (C : Sc X N sc) (i : Nat) (h : nmB N sc i x = true) : OkE X (.Name x pos) (mVar i) := by
  obtain ⟨h1, h2, h3, h4⟩ := nmB_ok h
  exact okE_var (by rw [C.n]; exact h1) (by rw [C.s]; exact h2) h3 h4
theorem Sc.o (C : Sc X N sc) (i : Nat) (h : nmB N sc i x = true) : OkO X (.Name x pos) (.sl i) := by
  obtain ⟨h1, h2, h3, h4⟩ := nmB_ok h
  exact okO_sl (by rw [C.n]; exact h1) (by rw [C.s]; exact h2) h3 h4
theorem Sc.r {io : List Nat} (C : Sc X N sc) (i : Nat) (h : nmB N sc i x = true) : OkR X io (.Name x pos) (rVar io i) := by
  obtain ⟨h1, h2, h3, h4⟩ := nmB_ok h
  exact okR_var (by rw [C.n]; exact h1) (by rw [C.s]; exact h2) h3 h4
/-- a name that is stored to -/
def stB (N : List Str) (sc : Scope) (i : Nat) (x : Str) : Bool := decide (N.Nodup) && decide (N[i]? = some x) && locB sc x
theorem stB_ok (h : stB N sc i x = true) : N.Nodup ∧ N[i]? = some x ∧ sc.names.lookup x = some .local := by
  unfold stB at h
  simp only [Bool.and_eq_true, decide_eq_true_eq] at h
  exact ⟨h.1.1, h.1.2, locB_ok h.2⟩
theorem Sc.g (C : Sc X N sc) (i : Nat) (h : stB N sc i x = true) : OkG X (.Name x pos) (.nm i) := by
  obtain ⟨h1, h2, h3⟩ := stB_ok h
  exact okG_nm (by rw [C.n]; exact h1) (by rw [C.n]; exact h2) (.inl (by rw [C.s]; exact h3)) (.inr (by rw [C.s]; exact h3))
theorem Sc.set {io : List Nat} {m : SE} {p' : Pos} (C : Sc X N sc) (i : Nat) (h : stB N sc i x = true) (hio : i ∉ io) (he : OkE X e m) (hs : swapsWith e (some (.Name x p')) pos.line X.env = pure false) : OkS X io (.Assign [.Name x p'] e pos) (sSet i m) := by
  obtain ⟨h1, h2, h3⟩ := stB_ok h
  exact okS_set hio (set_plain (by rw [C.n]; exact h1) (by rw [C.n]; exact h2) (.inl (by rw [C.s]; exact h3)) (.inr (by rw [C.s]; exact h3)) hs) he
theorem Sc.own {io : List Nat} {m : SA} {p' : Pos} (C : Sc X N sc) (i : Nat) (h : stB N sc i x = true) (hio : i ∉ io) (he : OkN X e m) (hs : swapsWith e (some (.Name x p')) pos.line X.env = pure false) : OkS X io (.Assign [.Name x p'] e pos) (sOwn i m) := by
  obtain ⟨h1, h2, h3⟩ := stB_ok h
  exact okS_own hio (set_plain (by rw [C.n]; exact h1) (by rw [C.n]; exact h2) (.inl (by rw [C.s]; exact h3)) (.inr (by rw [C.s]; exact h3)) hs) he
/-- a name that is stored to and captured by a comprehension -/
def stC (N : List Str) (sc : Scope) (i : Nat) (x : Str) : Bool := decide (N.Nodup) && decide (N[i]? = some x) && (match sc.names.lookup x with | some .cell => true | _ => false)
theorem stC_ok (h : stC N sc i x = true) : N.Nodup ∧ N[i]? = some x ∧ sc.names.lookup x = some .cell := by
  unfold stC at h
  simp only [Bool.and_eq_true, decide_eq_true_eq] at h
  refine ⟨h.1.1, h.1.2, ?_⟩
  have := h.2
  split at this
  · assumption
  · cases this
/-- in a def's own body each cell is its own -/
def Cells (X : Cx) : Prop := ∀ x, X.env.scope.names.lookup x = some .cell → X.fn x = true
theorem Sc.setC {io : List Nat} {m : SE} {p' : Pos} (C : Sc X N sc) (i : Nat) (hf : Cells X) (h : stC N sc i x = true) (hio : i ∉ io) (he : OkE X e m) (hs : swapsWith e (some (.Name x p')) pos.line X.env = pure false) : OkS X io (.Assign [.Name x p'] e pos) (sSet i m) := by
  obtain ⟨h1, h2, h3⟩ := stC_ok h
  exact okS_set hio (set_plain (by rw [C.n]; exact h1) (by rw [C.n]; exact h2) (.inr (by rw [C.s]; exact h3)) (.inl (hf _ (by rw [C.s]; exact h3))) hs) he
theorem Sc.ownC {io : List Nat} {m : SA} {p' : Pos} (C : Sc X N sc) (i : Nat) (hf : Cells X) (h : stC N sc i x = true) (hio : i ∉ io) (he : OkN X e m) (hs : swapsWith e (some (.Name x p')) pos.line X.env = pure false) : OkS X io (.Assign [.Name x p'] e pos) (sOwn i m) := by
  obtain ⟨h1, h2, h3⟩ := stC_ok h
  exact okS_own hio (set_plain (by rw [C.n]; exact h1) (by rw [C.n]; exact h2) (.inr (by rw [C.s]; exact h3)) (.inl (hf _ (by rw [C.s]; exact h3))) hs) he
/-- a comprehension's value to a name, stored within the line -/
def lcB (sc scope : Scope) (y : Str) (py pos : Pos) : Bool := (match sc.kind with | .function => true | _ => false) && (py.line == pos.line) && !(scope.names.any fun (n, k) => n == y && (k == .local || k == .cell))
theorem lcB_ok {scope : Scope} {y : Str} {py : Pos} (h : lcB sc scope y py pos = true) : sc.kind = .function ∧ (py.line == pos.line) = true ∧ (scope.names.any fun (n, k) => n == y && (k == .local || k == .cell)) = false := by
  unfold lcB at h
  simp only [Bool.and_eq_true, Bool.not_eq_true'] at h
  refine ⟨?_, h.1.2, h.2⟩
  have := h.1.1
  split at this
  · assumption
  · cases this
theorem Sc.lcS {y : Str} {py spos : Pos} {elt tg iter : Expr} {ifs : List Expr} {scope : Scope} {own : List (Str × Nat)} {t : Tg} (C : Sc X N sc) (i : Nat) (hc : X.calm = true) (h : stB N sc i y = true) (hl : lcB sc scope y py pos = true) (ok : blkC N sc scope own = true) (hix : own.map (·.2) = t.ix) (hs : ∀ x, foldedSetIterable iter X.env x = pure x) :
    ∀ (E : Ends) (sg : St) (H : Hp), tLc (UI X tg iter) (UGb X scope tg) (UTb X scope ifs) (UEb X scope elt) t.ix sg H (fun v H1 => E.nx (sg.set i (some v)) H1) → US X (.Assign [.Name y py] (.ListComp elt [⟨tg, iter, ifs, 0⟩] scope pos) spos) E sg H := by
  obtain ⟨h1, h2, h3⟩ := stB_ok h
  obtain ⟨l1, l2, l3⟩ := lcB_ok hl
  have hy : X.env.scope.names.lookup y = some .local := by rw [C.s]; exact h3
  exact set_lc hc (by rw [C.n]; exact h1) (by rw [C.n]; exact h2) hy (sw_true (by rw [C.s]; exact l1) hy l2 l3) (by rw [C.n, C.s]; exact blkOk_by ok) hix hs
theorem Sc.setLc {io : List Nat} {y : Str} {py spos : Pos} {elt tg iter : Expr} {ifs : List Expr} {scope : Scope} {src : SA} {t : Tg} {c : ST} {m : SE} (C : Sc X N sc) (i : Nat) (own : List (Str × Nat)) (hio : i ∉ io) (hc : X.calm = true) (h : stB N sc i y = true) (hl : lcB sc scope y py pos = true) (ok : blkC N sc scope own = true) (hix : own.map (·.2) = t.ix) (hs : ∀ x, foldedSetIterable iter X.env x = pure x)
    (hi : OkI X tg iter src) (hg : ∀ s0 H0 C cl fp, OkG (Cx.inBlk X scope s0 H0 C cl fp) tg t) (ht : ∀ s0 H0 C cl fp, OkTs (Cx.inBlk X scope s0 H0 C cl fp) ifs c) (he : ∀ s0 H0 C cl fp, OkE (Cx.inBlk X scope s0 H0 C cl fp) elt m) :
    OkS X io (.Assign [.Name y py] (.ListComp elt [⟨tg, iter, ifs, 0⟩] scope pos) spos) (sSet i (listOf (nLc src t c m))) := okS_set hio (C.lcS i hc h hl ok hix hs) (okNT_lc hi hg ht he).dat
theorem Sc.lc {elt tg iter : Expr} {ifs : List Expr} {scope : Scope} {src : SA} {t : Tg} {c : ST} {m : SE} (C : Sc X N sc) (own : List (Str × Nat)) (hc : X.calm = true) (hN : N.Nodup) (ok : blkC N sc scope own = true) (hix : own.map (·.2) = t.ix) (hs : ∀ x, foldedSetIterable iter X.env x = pure x)
    (hi : OkI X tg iter src) (hg : ∀ s0 H0 C cl fp, OkG (Cx.inBlk X scope s0 H0 C cl fp) tg t) (ht : ∀ s0 H0 C cl fp, OkTs (Cx.inBlk X scope s0 H0 C cl fp) ifs c) (he : ∀ s0 H0 C cl fp, OkE (Cx.inBlk X scope s0 H0 C cl fp) elt m) :
    OkN X (.ListComp elt [⟨tg, iter, ifs, 0⟩] scope pos) (nLc src t c m) := okN_lc hc (by rw [C.n]; exact hN) hi (by rw [C.n, C.s]; exact blkOk_by ok) hix hg ht he hs
theorem Sc.put {io : List Nat} {k m : SE} {ek : Expr} {px pt : Pos} (C : Sc X N sc) (i : Nat) (h : nmB N sc i x = true) (hk : OkE X ek k) (he : OkE X e m)
    (ha : ∀ v, assign (.Subscript (.Name x px) ek pt) X.env v = (do
      let ov ← holding [v] (eval (.Name x px) X.env)
      let iv ← holding [v, ov] (eval ek X.env)
      standAt pt
      holding [v, ov, iv] (setItem ov iv v)
      release [v, ov, iv] []))
    (hs : swapsWithSole [.Subscript (.Name x px) ek pt] e pos.line X.env = pure false) (hw : swappedStores [.Subscript (.Name x px) ek pt] e X.env = pure none) (h1 : (assignEach [.Subscript (.Name x px) ek pt] X.env).map (·.2) = [assign (.Subscript (.Name x px) ek pt) X.env]) :
    OkS X io (.Assign [.Subscript (.Name x px) ek pt] e pos) (sPut i k m) := by
  obtain ⟨q1, q2, q3, q4⟩ := nmB_ok h
  exact okS_put (by rw [C.n]; exact q1) (by rw [C.s]; exact q2) q3 q4 hk he ha hs hw h1
theorem Sc.app {apos cpos px : Pos} {m : SE} (C : Sc X N sc) (i : Nat) (h : nmB N sc i x = true) (he : OkE X e m) (hs : starEach [e] X.env = (false, eval e X.env) :: starEach [] X.env) (hline : (apos.endLine == cpos.line) = true) : OkE X (.Call (.Attribute (.Name x px) "append" apos) [e] [] cpos) (mAppend i m) := by
  obtain ⟨q1, q2, q3, q4⟩ := nmB_ok h
  exact okE_append (by rw [C.n]; exact q1) (by rw [C.s]; exact q2) q3 q4 he hs hline
theorem Sc.ty (C : Sc X N sc) {t : String} (h : gloB sc x = true) (m : X.mg x = none) (v : bootBuiltins x = some (.type t)) (hn : x ≠ "__name__") (hd : (x == ("__debug__" : Str)) = false) : IsTy X x t := ⟨C.gl h, m, v, hn, hd⟩
theorem Sc.df (C : Sc X N sc) {f : Addr} {fd : FuncData} {ps : List Str} (h : gloB sc x = true) (m : X.mg x = some (.ref f)) (kp : PySem.W.keepIn X.K (.ref f) = true) (b : Binds X.K fd ps []) (db : (x == ("__debug__" : Str)) = false) : DefAt X x f fd ps := ⟨C.gl h, m, kp, b, db⟩
theorem Sc.two {io : List Nat} {y : Str} {a b : Expr} {p1 p2 pt : Pos} {kt k2 : Nat} {pt2 : Pos} {as : List Av} (C : Sc X N sc) (i j : Nat) (hc : X.calm = true) (h1 : stB N sc i x = true) (h2 : stB N sc j y = true) (hij : i ≠ j) (hio : ∀ l ∈ io, l ∉ [i, j]) (h : OkAv X [a, b] as)
    (hw : swappedStores [.Tuple [.Name x p1, .Name y p2] kt pt] (.Tuple [a, b] k2 pt2) X.env = pure (some [x, y])) (hs : swapsWithSole [.Tuple [.Name x p1, .Name y p2] kt pt] (.Tuple [a, b] k2 pt2) pos.line X.env = pure false) :
    OkS X io (.Assign [.Tuple [.Name x p1, .Name y p2] kt pt] (.Tuple [a, b] k2 pt2) pos) (sPar [i, j] as) := by
  obtain ⟨q1, q2, q3⟩ := stB_ok h1
  obtain ⟨_, r2, r3⟩ := stB_ok h2
  exact okS_par h hio (par2 hc (by rw [C.n]; exact q1) (by rw [C.n]; exact q2) (by rw [C.n]; exact r2) hij (by rw [C.s]; exact q3) (by rw [C.s]; exact r3) hw hs)
theorem Sc.three {io : List Nat} {y z : Str} {a b c : Expr} {p1 p2 p3 pt : Pos} {kt k2 : Nat} {pt2 : Pos} {as : List Av} (C : Sc X N sc) (i j l : Nat) (hc : X.calm = true) (h1 : stB N sc i x = true) (h2 : stB N sc j y = true) (h3 : stB N sc l z = true) (hij : i ≠ j) (hil : i ≠ l) (hjl : j ≠ l) (hio : ∀ t ∈ io, t ∉ [i, j, l]) (h : OkAv X [a, b, c] as)
    (hw : swappedStores [.Tuple [.Name x p1, .Name y p2, .Name z p3] kt pt] (.Tuple [a, b, c] k2 pt2) X.env = pure (some [x, y, z])) (hs : swapsWithSole [.Tuple [.Name x p1, .Name y p2, .Name z p3] kt pt] (.Tuple [a, b, c] k2 pt2) pos.line X.env = pure false) :
    OkS X io (.Assign [.Tuple [.Name x p1, .Name y p2, .Name z p3] kt pt] (.Tuple [a, b, c] k2 pt2) pos) (sPar [i, j, l] as) := by
  obtain ⟨q1, q2, q3⟩ := stB_ok h1
  obtain ⟨_, r2, r3⟩ := stB_ok h2
  obtain ⟨_, t2, t3⟩ := stB_ok h3
  exact okS_par h hio (par3 hc (by rw [C.n]; exact q1) (by rw [C.n]; exact q2) (by rw [C.n]; exact r2) (by rw [C.n]; exact t2) hij hil hjl (by rw [C.s]; exact q3) (by rw [C.s]; exact r3) (by rw [C.s]; exact t3) hw hs)
end
theorem cells_body {P : Program} {w : World} {K : PySem.W.Frag} {mg : Str → Option Value} {base : Heap} {N : List Str} {qual : Str} {st : Stmt} {f : Addr} {cdv : Value} {A : Around} {outer : List PySem.Env} {s : Shared} {H : Hp} : Cells (v3 P w K mg base N qual st f cdv A outer s H) := fun _ _ => rfl
theorem Room.un64 {k : Nat} {A : Around} (r : RoomG k A) : A.units + 64 < cLine := by have := r.rm.un; omega
theorem Room.un65 {k : Nat} {A : Around} (r : RoomG k A) : A.units + 65 < cLine := by have := r.rm.un; omega
section
variable {P : Program} {w : World} {K : PySem.W.Frag} {mg : Str → Option Value} {base : Heap} {f : Addr} {fd : FuncData} {ps : List Str} {k : Nat}
theorem fnG_none : FnG P w K mg base k f fd ps fun _ => none := ⟨fun _ _ _ _ _ _ _ _ _ _ _ _ _ _ _ _ _ _ h _ => nomatch h⟩
theorem fnN_none : FnN P w K mg base k f fd ps fun _ => none := ⟨fun _ _ _ _ _ _ _ _ _ _ _ _ _ _ _ _ _ _ h _ => nomatch h⟩
end
section
variable {P : Program} {w : World} {K : PySem.W.Frag} {mg mb : Str → Option Value} {k : Nat} {fa a : Addr} {fd : FuncData} {x : Str} {F : FSem} {st : Shared} {us : List Value} {ns : List Int}
theorem head_run {H : Hp} (KX : K.In st.heap) (nsG : st.heap.Ns mainGlobals mg) (nsB : st.heap.Ns builtinsNs mb) (bb : ∀ x : Str, x ≠ "__name__" → mb x = bootBuiltins x) (lim : st.heap.NoLimit) (gn : st.gens = #[])
    (at_a : st.heap.get? a = some { cls := .type "list", data := .seq us.toArray }) (hr : RoomG k callerA) (G : ∀ base : Heap, FnG P w K mg base k fa fd [x] F) (bd : ∀ (s : Shared) (u : Value), BindsTo s fd ⟨[u], []⟩ [(x, u)])
    (at_H : ScrAt K (fun _ => False) H a ns) (ok : HOk P w H st.heap) (only : ∀ b o, H b = some o → b = a ∧ ∃ ob zs, o = .frz ob (.lst zs)) (nk : ∀ o, H a = some o → K.lookup a = none) {as' : List Sl} (hF : F [.scr (.nums ns)] = some (.bool true, as')) :
    codeAny (model P w) callerA (.call (.ref fa) ⟨[.ref a], []⟩) (fun r s' => r = .ok (.ret (.bool true)) ∧ OldK st.heap s'.heap ∧ s'.os = st.os ∧ PyProof.Rows.AllBare s'.gens) st := by
  have free_of : ∀ {b : Addr} {o : Obj} {es : Array DictEntry} {ep : Nat}, st.heap.get? b = some o → o.data = .dict es ep → H b = none := by
    intro b o es ep h1 h2
    match hh : H b with
    | none => rfl
    | some u =>
      obtain ⟨rfl, _⟩ := only b u hh
      rw [at_a] at h1
      cases h1
      exact Data.noConfusion h2
  have lift : ∀ {b : Addr} {m : Str → Option Value}, st.heap.Ns b m → (hidT st.heap H).Ns b m := by
    rintro b m ⟨o, es, ep, h1, h2, h3⟩
    exact ⟨o, es, ep, hidT_get h1 (free_of h1 h2), h2, h3⟩
  have KB : K.In (hidT st.heap H) := by
    intro b o h1
    refine hidT_get (KX b o h1) ?_
    match hh : H b with
    | none => rfl
    | some u =>
      obtain ⟨rfl, _⟩ := only b u hh
      rw [nk u hh] at h1
      cases h1
  have md : Mod K mg (hidT st.heap H) := by
    obtain ⟨mc, c1, c2⟩ := lim
    exact ⟨KB, lift nsG, ⟨mb, lift nsB, bb⟩, ⟨mc, lift c1, c2⟩⟩
  have en : Env0 P w K mg (hidT st.heap H) callerA [] st H := ⟨rfl, md, fun _ _ h => of_hidT h, Nat.le_of_eq (hidT_size _ _), trivial, (fun b hb => nomatch (show b ∈ ([] : List Addr) from hb)), ok, .of_eq gn⟩
  have sm : Sim K (fun _ => False) (stOf [.ref a]) H (envOf [.scr (.nums ns)]) := by
    refine ⟨rfl, fun i y h => ?_, fun i y h => ?_, fun i y h => ?_, fun _ h => h.elim, fun i j xs ys b h _ _ _ => ?_, fun b ⟨i, xs, h, _⟩ => ?_⟩
    · have := envOf_get.mp h
      match i, this with
      | 0, h => cases h
      | i + 1, h => cases h
    · have := envOf_get.mp h
      match i, this with
      | 0, h => cases h
      | i + 1, h => cases h
    · have := envOf_get.mp h
      match i, this with
      | 0, h => cases h; exact ⟨a, rfl, at_H⟩
      | i + 1, h => cases h
    · have := envOf_get.mp h
      match i, this with
      | 0, h => cases h
      | i + 1, h => cases h
    · have := envOf_get.mp h
      match i, this with
      | 0, h => cases h
      | i + 1, h => cases h
  have run := (G _).run callerA [] st H ⟨[.ref a], []⟩ [.ref a] [.ref a] (fun _ => False) [.scr (.nums ns)] as' (.bool true) (fun v _ => v = .bl true) hr en (bd st (.ref a)) (.cons rfl .nil) rfl sm hF (fun v H' _ q => by cases q; rfl)
  refine codeAny_mono run fun r s' h => ?_
  match r, h with
  | .ok (.ret u), h =>
    obtain ⟨v, H', os, bare, un, hok', r', rfl⟩ := h
    obtain rfl : u = Value.bool true := r'
    refine ⟨rfl, OldK.of_keep fun b o e => ?_, os, bare⟩
    match hh : H b with
    | none => exact un.keep b o e hh (fun z => nomatch (show b ∈ ([] : List Addr) from z)) (fun z => nomatch z)
    | some t =>
      obtain ⟨rfl, ob, zs, rfl⟩ := only b t hh
      obtain ⟨e1, _⟩ := ok b _ hh
      obtain ⟨e2, _⟩ := hok' b _ (un.frzs b ob _ hh)
      rw [e] at e1
      cases e1
      exact e2
  | .ok .next, h => exact False.elim h
  | .ok .brk, h => exact False.elim h
  | .ok .cont, h => exact False.elim h
  | .error _, h => exact False.elim h
theorem head_call (KX : K.In st.heap) (nsG : st.heap.Ns mainGlobals mg) (nsB : st.heap.Ns builtinsNs mb) (bb : ∀ x : Str, x ≠ "__name__" → mb x = bootBuiltins x) (lim : st.heap.NoLimit) (gn : st.gens = #[])
    (at_a : st.heap.get? a = some { cls := .type "list", data := .seq us.toArray }) (hi : PyProof.Rows.IntsAre us ns) (hl : ns.length ≤ sizeLine) (hr : RoomG k callerA) (G : ∀ base : Heap, FnG P w K mg base k fa fd [x] F) (bd : ∀ (s : Shared) (u : Value), BindsTo s fd ⟨[u], []⟩ [(x, u)])
    {as' : List Sl} (hF : F [.scr (.nums ns)] = some (.bool true, as')) :
    codeAny (model P w) callerA (.call (.ref fa) ⟨[.ref a], []⟩) (fun r s' => r = .ok (.ret (.bool true)) ∧ OldK st.heap s'.heap ∧ s'.os = st.os ∧ PyProof.Rows.AllBare s'.gens) st := by
  have vv := vals_ints hi
  have ll := hi.length
  match hk : K.lookup a with
  | some o =>
    have e := KX a o hk
    rw [at_a] at e
    cases e
    refine head_run (H := fun _ => none) KX nsG nsB bb lim gn at_a hr G bd (.inr ⟨_, us.toArray, _, hk, rfl, rfl, rfl, ?_, ?_⟩) (fun b u z => nomatch z) (fun b u z => nomatch z) (fun u z => nomatch z) hF
    · rw [List.size_toArray, ll]; exact hl
    · simpa using vv
  | none =>
    have key : ∀ {b : Addr} {u : HO}, (fun b => if b = a then some (HO.frz { cls := .type "list", data := .seq us.toArray } (.lst (ns.map V.int))) else none) b = some u → b = a ∧ u = HO.frz { cls := .type "list", data := .seq us.toArray } (.lst (ns.map V.int)) := by
      intro b u z
      simp only at z
      split at z
      · rename_i h; exact ⟨h, (Option.some.inj z).symm⟩
      · cases z
    refine head_run (H := fun b => if b = a then some (HO.frz { cls := .type "list", data := .seq us.toArray } (.lst (ns.map V.int))) else none) KX nsG nsB bb lim gn at_a hr G bd (.inl ⟨_, if_pos rfl, id⟩) (fun b u z => ?_) (fun b u z => ?_) (fun u z => hk) hF
    · obtain ⟨rfl, rfl⟩ := key z
      exact ⟨at_a, by rw [List.length_map]; exact hl, us, _, vv, at_a⟩
    · obtain ⟨rfl, rfl⟩ := key z
      exact ⟨rfl, _, _, rfl⟩
end
end DL
namespace DL
open PySem PySem.Spec L2
theorem sz {n : Nat} (h : n ≤ 1000) : (n ≤ sizeLine) = True := eq_true (Nat.le_trans h (by decide))
mutual
def tupD : D → D
  | .list xs => .tuple (tupL xs)
  | .tuple xs => .tuple (tupL xs)
  | .none => .none
  | .bool b => .bool b
  | .int i => .int i
  | .str x => .str x
  | .dict k => .dict k
def tupL : List D → List D
  | [] => []
  | x :: xs => tupD x :: tupL xs
end
mutual
def lstD : D → D
  | .list xs => .list (lstL xs)
  | .tuple xs => .list (lstL xs)
  | .none => .none
  | .bool b => .bool b
  | .int i => .int i
  | .str x => .str x
  | .dict k => .dict k
def lstL : List D → List D
  | [] => []
  | x :: xs => lstD x :: lstL xs
end
theorem tupL_map : ∀ xs : List D, tupL xs = xs.map tupD
  | [] => rfl
  | x :: xs => by rw [tupL, tupL_map xs]; rfl
theorem lstL_map : ∀ xs : List D, lstL xs = xs.map lstD
  | [] => rfl
  | x :: xs => by rw [lstL, lstL_map xs]; rfl
/-- no dict, no list longer than m, at most n levels -/
def fit (m : Nat) : Nat → D → Bool
  | 0, .list _ => false
  | 0, .tuple _ => false
  | n + 1, .list xs => decide (xs.length ≤ m) && xs.all (fit m n)
  | n + 1, .tuple xs => decide (xs.length ≤ m) && xs.all (fit m n)
  | _, .dict _ => false
  | _, .str x => decide (x.length ≤ m)
  | _, .int _ => true
  | _, .bool _ => true
  | _, .none => true
theorem fit_mono {m : Nat} : ∀ {n k : Nat} {d : D}, n ≤ k → fit m n d = true → fit m k d = true
  | n, k, .none, _, _ => by cases k <;> rfl
  | n, k, .bool _, _, _ => by cases k <;> rfl
  | n, k, .int _, _, _ => by cases k <;> rfl
  | n, k, .str x, _, h => by cases n <;> cases k <;> exact h
  | 0, k, .list xs, _, h => by cases h
  | 0, k, .tuple xs, _, h => by cases h
  | n + 1, 0, .list xs, hk, _ => by omega
  | n + 1, 0, .tuple xs, hk, _ => by omega
  | n + 1, k + 1, .list xs, hk, h => by
    simp only [fit, Bool.and_eq_true, List.all_eq_true] at h ⊢
    exact ⟨h.1, fun x hx => fit_mono (by omega) (h.2 x hx)⟩
  | n + 1, k + 1, .tuple xs, hk, h => by
    simp only [fit, Bool.and_eq_true, List.all_eq_true] at h ⊢
    exact ⟨h.1, fun x hx => fit_mono (by omega) (h.2 x hx)⟩
  | 0, k, .dict _, _, h => by cases h
  | n + 1, k, .dict _, _, h => by cases h
theorem fit_list {m n : Nat} {xs : List D} (h : fit m n (.list xs) = true) : ∃ j, n = j + 1 ∧ xs.length ≤ m ∧ ∀ x ∈ xs, fit m j x = true := by
  cases n with
  | zero => cases h
  | succ j =>
    simp only [fit, Bool.and_eq_true, List.all_eq_true, decide_eq_true_eq] at h
    exact ⟨j, rfl, h.1, h.2⟩
theorem fit_tuple {m n : Nat} {xs : List D} (h : fit m n (.tuple xs) = true) : ∃ j, n = j + 1 ∧ xs.length ≤ m ∧ ∀ x ∈ xs, fit m j x = true := by
  cases n with
  | zero => cases h
  | succ j =>
    simp only [fit, Bool.and_eq_true, List.all_eq_true, decide_eq_true_eq] at h
    exact ⟨j, rfl, h.1, h.2⟩
theorem fit_dict {m n : Nat} {k : List (PyData × PyData)} (h : fit m n (.dict k) = true) : False := by cases n <;> cases h
theorem fit_of_list {m n : Nat} {xs : List D} (h1 : xs.length ≤ m) (h : ∀ x ∈ xs, fit m n x = true) : fit m (n + 1) (.list xs) = true := by
  simp only [fit, Bool.and_eq_true, List.all_eq_true, decide_eq_true_eq]
  exact ⟨h1, h⟩
theorem fit_of_tuple {m n : Nat} {xs : List D} (h1 : xs.length ≤ m) (h : ∀ x ∈ xs, fit m n x = true) : fit m (n + 1) (.tuple xs) = true := by
  simp only [fit, Bool.and_eq_true, List.all_eq_true, decide_eq_true_eq]
  exact ⟨h1, h⟩
theorem depthAll_le {n : Nat} : ∀ {xs : List D}, (∀ x ∈ xs, x.depth ≤ n) → PyData.depthAll xs ≤ n
  | [], _ => Nat.zero_le _
  | x :: xs, h => by
    unfold PyData.depthAll
    exact Nat.max_le.mpr ⟨h x List.mem_cons_self, depthAll_le fun y hy => h y (List.mem_cons_of_mem _ hy)⟩
theorem fit_depth {m : Nat} : ∀ {n : Nat} {d : D}, fit m n d = true → d.depth ≤ n
  | n, .none, _ => Nat.zero_le _
  | n, .bool _, _ => Nat.zero_le _
  | n, .int _, _ => Nat.zero_le _
  | n, .str _, _ => Nat.zero_le _
  | n, .dict _, h => (fit_dict h).elim
  | 0, .list xs, h => by cases h
  | 0, .tuple xs, h => by cases h
  | n + 1, .list xs, h => by
    obtain ⟨j, e, _, h2⟩ := fit_list h
    cases e
    have := depthAll_le fun x hx => fit_depth (h2 x hx)
    unfold PyData.depth
    omega
  | n + 1, .tuple xs, h => by
    obtain ⟨j, e, _, h2⟩ := fit_tuple h
    cases e
    have := depthAll_le fun x hx => fit_depth (h2 x hx)
    unfold PyData.depth
    omega
theorem fit_flat {m n : Nat} {d : D} (hn : n ≤ 60) (h : fit m n d = true) : flatD d = true := by
  unfold flatD
  have := fit_depth h
  exact decide_eq_true (by omega)
mutual
theorem tup_lst : ∀ {d : D}, tupD (lstD d) = tupD d
  | .none => rfl
  | .bool b => rfl
  | .int i => rfl
  | .str x => rfl
  | .dict _ => rfl
  | .list xs => by unfold lstD tupD; rw [tup_lstL]
  | .tuple xs => by unfold lstD; rw [tupD, tupD, tup_lstL]
theorem tup_lstL : ∀ {xs : List D}, tupL (lstL xs) = tupL xs
  | [] => rfl
  | x :: xs => by unfold lstL tupL; rw [tup_lst, tup_lstL]
end
section
variable {α : Type}
theorem at0 (x : α) (xs : List α) : atI (x :: xs) 0 = some x := atI_nat (j := 0) rfl
theorem at1 (x y : α) (xs : List α) : atI (x :: y :: xs) 1 = some y := atI_nat (j := 1) rfl
theorem at2 (x y z : α) (xs : List α) : atI (x :: y :: z :: xs) 2 = some z := atI_nat (j := 2) rfl
end
theorem fEq_of {n : Nat} {x y : D} {m : Nat} (hn : n ≤ 60) (h : fit m n x = true) : fEq x y = some (.bool (PyData.eqv x y)) := by
  unfold fEq
  rw [fit_flat hn h]
  all_goals rfl
theorem fNe_of {n : Nat} {x y : D} {m : Nat} (hn : n ≤ 60) (h : fit m n x = true) : fNe x y = some (.bool (!PyData.eqv x y)) := by
  unfold fNe
  rw [fit_flat hn h]
  all_goals rfl
theorem fEq_int (i j : Int) : fEq (.int i) (.int j) = some (.bool (decide (i = j))) := by
  rw [fEq_of (n := 0) (m := 0) (by omega) rfl]
  unfold PyData.eqv
  by_cases h : i = j <;> simp [h]
theorem fNe_int (i j : Int) : fNe (.int i) (.int j) = some (.bool (!decide (i = j))) := by
  rw [fNe_of (n := 0) (m := 0) (by omega) rfl]
  unfold PyData.eqv
  by_cases h : i = j <;> simp [h]
theorem fEq_str (x y : Str) : fEq (.str x) (.str y) = some (.bool (x == y)) := by
  unfold fEq
  have : flatD (.str x) = true := rfl
  rw [this]
  all_goals rfl
theorem fNe_str (x y : Str) : fNe (.str x) (.str y) = some (.bool (!(x == y))) := by
  unfold fNe
  have : flatD (.str x) = true := rfl
  rw [this]
  all_goals rfl
theorem fNe_r {x y : D} (h : flatD y = true) : fNe x y = some (.bool (!PyData.eqv x y)) := by
  unfold fNe
  rw [h, Bool.or_true]
  all_goals rfl
theorem boolsOf_map {α : Type} (f : α → Bool) : ∀ xs : List α, boolsOf (xs.map fun x => .bool (f x)) = some (xs.map f)
  | [] => rfl
  | x :: xs => by
    rw [List.map_cons, boolsOf, boolsOf_map f xs]
    all_goals rfl
theorem lc_filter {t : Tg} {c : ST} {m : SE} {vs : List Nat} {r : DL.Env} (p : D → Bool) (f : D → D) : ∀ {ds : List D}, (∀ d ∈ ds, ∃ r1, t.bind d r = some r1 ∧ c r1 = some (p d, r1) ∧ (p d = true → m r1 = some (f d, r1)) ∧ wipeE r1 vs = r) → lcLoop t c m vs ds r = some ((ds.filter p).map f, r)
  | [], _ => rfl
  | d :: ds, h => by
    obtain ⟨r1, h1, h2, h3, h4⟩ := h d List.mem_cons_self
    have ih := lc_filter p f (t := t) (c := c) (m := m) (vs := vs) (ds := ds) fun x hx => h x (List.mem_cons_of_mem _ hx)
    unfold lcLoop
    rw [h1]
    simp only
    rw [h2]
    cases hp : p d with
    | true =>
      simp only
      rw [h3 hp]
      simp only
      rw [h4, ih]
      simp [hp]
    | false =>
      simp only
      rw [h4, ih]
      simp [hp]
theorem lc_map {t : Tg} {m : SE} {vs : List Nat} {r : DL.Env} (f : D → D) {ds : List D} (h : ∀ d ∈ ds, ∃ r1, t.bind d r = some r1 ∧ m r1 = some (f d, r1) ∧ wipeE r1 vs = r) : lcLoop t tTrue m vs ds r = some (ds.map f, r) := by
  rw [lc_filter (fun _ => true) f fun d hd => ?_, List.filter_eq_self.mpr fun _ _ => rfl]
  obtain ⟨r1, h1, h2, h3⟩ := h d hd
  exact ⟨r1, h1, rfl, fun _ => h2, h3⟩
end DL
namespace DL
open PySem PySem.Spec L2 PyProof.Rows
def txt (e : Int × Value) : Str := match e.2 with
  | .str k _ => k
  | _ => Str.empty
def GoodT (P : Program) (w : World) (e : Int × Value) : Prop := ∃ k tk, e.2 = Value.str k tk ∧ e.1 = (PySem.strKind P w).hash k
/-- the set of texts at a -/
def TSet (P : Program) (w : World) (h : Heap) (a : Addr) (M : Str → Bool) (n : Nat) : Prop :=
  ∃ ob es ep tb, h.get? a = some ob ∧ ob.ExactSet ∧ ob.data = .set es ep tb ∧ (∀ e ∈ es.toList, GoodT P w e) ∧ (es.toList.map txt).Nodup ∧ (∀ k, M k = true ↔ k ∈ es.toList.map txt) ∧
    es.size < scanBound ∧ tb.fits es.size = true ∧ es.size = n ∧ L2.Ris tb.place.toList ∧ (w.params.followText "set-order" = true ∨ tb.led = true)
section
variable {P : Program} {w : World} {h h' : Heap} {a : Addr} {M : Str → Bool} {n : Nat}
theorem TSet.at (R : TSet P w h a M n) (k : ∀ o, h.get? a = some o → h'.get? a = some o) : TSet P w h' a M n := by
  obtain ⟨ob, es, ep, tb, e, z⟩ := R
  exact ⟨ob, es, ep, tb, k ob e, z⟩
theorem TSet.same {M' : Str → Bool} (R : TSet P w h a M n) (e : ∀ k, M' k = M k) : TSet P w h a M' n := (funext e : M' = M) ▸ R
end
end DL
namespace DL
open PySem PySem.Spec L2 PyProof.Rows
end DL
namespace DL
open PySem PySem.Spec L2 PyProof.Rows
def leS (a b : Str) : Bool := !ltCps b.cps.toList a.cps.toList
def sortT (xs : List Str) : List Str := xs.mergeSort leS
def uniqS : List Str → List Str
  | [] => []
  | x :: xs => if x ∈ uniqS xs then uniqS xs else x :: uniqS xs
theorem leS_iff {a b : Str} : leS a b = true ↔ a.cps.toList ≤ b.cps.toList := by
  unfold leS
  rw [ltCps_eq, Bool.not_eq_true', decide_eq_false_iff_not, List.not_lt]
theorem leS_trans (a b c : Str) (h1 : leS a b = true) (h2 : leS b c = true) : leS a c = true := leS_iff.mpr (List.le_trans (leS_iff.mp h1) (leS_iff.mp h2))
theorem leS_total (a b : Str) : (leS a b || leS b a) = true := by
  rw [Bool.or_eq_true, leS_iff, leS_iff]
  exact List.le_total _ _
theorem str_of_cps {a b : Str} (h : a.cps.toList = b.cps.toList) : a = b := by
  obtain ⟨⟨l⟩⟩ := a
  obtain ⟨⟨m⟩⟩ := b
  cases (show l = m from h)
  rfl
theorem leS_anti {a b : Str} (h1 : leS a b = true) (h2 : leS b a = true) : a = b := str_of_cps (List.le_antisymm (leS_iff.mp h1) (leS_iff.mp h2))
theorem rising_pw : ∀ (p : Str) (l : List Str), risingS p l = true → (p :: l).Pairwise fun a b => leS a b = true
  | p, [], _ => List.pairwise_singleton _ _
  | p, x :: r, h => by
    rw [risingS, Bool.and_eq_true] at h
    have ih := rising_pw x r h.2
    refine List.pairwise_cons.mpr ⟨fun y hy => ?_, ih⟩
    rcases List.mem_cons.mp hy with z | z
    · rw [z]; exact h.1
    · exact leS_trans _ _ _ h.1 ((List.pairwise_cons.mp ih).1 y z)
theorem sorted_pw : ∀ (l : List Str), sortedS l = true → l.Pairwise fun a b => leS a b = true
  | [], _ => List.Pairwise.nil
  | x :: r, h => rising_pw x r h
theorem sort_unique {xs ys : List Str} (hp : ys.Perm xs) (hs : ys.Pairwise fun a b => leS a b = true) : ys = sortT xs :=
  (hp.trans (List.mergeSort_perm xs leS).symm).eq_of_pairwise (fun _ _ _ _ h1 h2 => leS_anti h1 h2) hs (List.pairwise_mergeSort leS_trans leS_total xs)
theorem uniq_nd : ∀ {xs : List Str}, (uniqS xs).Nodup
  | [] => List.nodup_nil
  | x :: xs => by
    unfold uniqS
    split
    · exact uniq_nd
    · rename_i h
      exact List.nodup_cons.mpr ⟨h, uniq_nd⟩
end DL
namespace DL
open PySem PySem.Spec L2
section
variable {X : Cx} {e : Expr} {p p2 q pos : Pos} {sg : St} {H : Hp} {Q : VK}
/-- texts in a list or a tuple -/
abbrev Texts (K : PySem.W.Frag) (H : Hp) (v : V) (xs : List Str) : Prop := ∃ l, v = .ref l ∧ (SqL K H l (xs.map V.str) ∨ SqT K H l (xs.map V.str))
end
def textsOf : List D → Option (List Str)
  | [] => some []
  | .str x :: ds => match textsOf ds with | some xs => some (x :: xs) | none => none
  | _ :: _ => none
theorem texts_rep {K : PySem.W.Frag} {L : Addr → Prop} {H : Hp} : ∀ {ds : List D} {vs : List V} {xs : List Str}, textsOf ds = some xs → RepL K L H vs ds → vs = xs.map V.str ∧ ∀ x ∈ xs, PyData.strOk x = true
  | [], _, _, e, .nil => by cases e; exact ⟨rfl, fun _ h => nomatch h⟩
  | d :: ds, _, xs, e, .cons (v := v) (vs := vs) r t => by
    cases r with
    | str x hx =>
      unfold textsOf at e
      split at e
      · rename_i ys ey
        cases e
        obtain ⟨e1, e2⟩ := texts_rep ey t
        refine ⟨by rw [e1]; rfl, fun z hz => ?_⟩
        rcases List.mem_cons.mp hz with w | w
        · rw [w]; exact hx
        · exact e2 z w
      · cases e
    | non => cases e
    | bl _ => cases e
    | int _ => cases e
    | lst _ _ _ => cases e
    | tup _ _ _ => cases e
    | ktup _ _ => cases e
def seqOf : D → Option (List D)
  | .list ds => some ds
  | .tuple ds => some ds
  | _ => none
theorem texts_bor {s : Bool} {K : PySem.W.Frag} {L : Addr → Prop} {H : Hp} {v : V} {d : D} {ds : List D} {xs : List Str} (h : Bor s K L H v d) (e : seqOf d = some ds) (e2 : textsOf ds = some xs) : Texts K H v xs ∧ ∀ x ∈ xs, PyData.strOk x = true := by
  cases d with
  | list zs =>
    cases e
    obtain ⟨l, us, rfl, h1, r1, _⟩ := h.list
    obtain ⟨rfl, h3⟩ := texts_rep e2 r1
    exact ⟨⟨l, rfl, .inl h1⟩, h3⟩
  | tuple zs =>
    cases e
    obtain ⟨l, us, rfl, h1, r1⟩ := h.tuple
    obtain ⟨rfl, h3⟩ := texts_rep e2 r1
    exact ⟨⟨l, rfl, .inr h1⟩, h3⟩
  | none => cases e
  | bool _ => cases e
  | int _ => cases e
  | str _ => cases e
  | dict _ => cases e
theorem repL_strs {K : PySem.W.Frag} {L : Addr → Prop} {H : Hp} : ∀ {xs : List Str}, (∀ x ∈ xs, PyData.strOk x = true) → RepL K L H (xs.map V.str) (xs.map PyData.str)
  | [], _ => .nil
  | x :: xs, h => .cons (.str x (h x List.mem_cons_self)) (repL_strs fun y hy => h y (List.mem_cons_of_mem _ hy))
/-- an operand that holds texts -/
def opdT (o : Opd) : DL.Env → Option (List Str × DL.Env) := fun r => if o.here r then match o.pre r with
  | some (y, r') => match o.post true y r' with
    | some d => match seqOf d with
      | some ds => match textsOf ds with | some xs => if xs.length < 64 then some (xs, r') else none | none => none
      | none => none
    | none => none
  | none => none else none
def nSortSet (o : Opd) : SA := fun r => match opdT o r with | some (xs, r') => some ((sortT (uniqS xs)).map PyData.str, r') | none => none
def mLenSet (o : Opd) : SE := fun r => match opdT o r with | some (xs, r') => some (.int (uniqS xs).length, r') | none => none
end DL
namespace DL
open PySem PySem.Spec L2
def opdX (o : Opd) : DL.Env → Option (List Str × DL.Env) := fun r => if o.here r then match o.pre r with
  | some (y, r') => match o.post true y r' with
    | some d => match seqOf d with
      | some ds => match textsOf ds with | some xs => some (xs, r') | none => none
      | none => none
    | none => none
  | none => none else none
theorem opdX_ok {X : Cx} {e : Expr} {o : Opd} (h : OkO X e o) {P : Addr → Prop} {sg : St} {H : Hp} {r r' : DL.Env} {xs : List Str} {R : V → Hp → Prop} (S : Sim X.K P sg H r) (hm : opdX o r = some (xs, r'))
    (hq : ∀ v H', Ext X.K P sg r H r' H' → Texts X.K H' v xs → (∀ x ∈ xs, PyData.strOk x = true) → R v H') : UE X e sg H R := by
  unfold opdX at hm
  split at hm
  · rename_i h0
    split at hm
    · rename_i y r1 e1
      split at hm
      · rename_i d e2
        split at hm
        · rename_i ds e3
          split at hm
          · rename_i ys e4
            cases hm
            refine h P sg H r _ _ _ S e1 (fun v H1 E1 q1 => ?_) (here_of h0)
            obtain ⟨t1, t2⟩ := texts_bor (q1.done E1.sim e2) e3 e4
            exact hq v H1 E1 t1 t2
          · cases hm
        · cases hm
      · cases hm
    · cases hm
  · cases hm
def mJoin (m : SE) (o : Opd) : SE := fun r => match m r with
  | some (.str a, r1) => match opdX o r1 with
    | some (xs, r2) => if (xs.map (·.length)).sum + xs.length * a.length ≤ 16777216 ∧ PyData.strOk (Txt.join a xs) = true then some (.str (Txt.join a xs), r2) else none
    | none => none
  | _ => none
def nSplit (m n : SE) : SA := fun r => match m r with
  | some (.str a, r1) => match n r1 with
    | some (.str b, r2) => if (b.length == 0) = false ∧ a.length + 2 ≤ sizeLine ∧ (∀ x ∈ Txt.split a b, PyData.strOk x = true) then some ((Txt.split a b).map PyData.str, r2) else none
    | _ => none
  | _ => none
def mUpper (m : SE) : SE := fun r => match m r with
  | some (.str a, r1) => if a.length ≤ 5592405 ∧ PyData.strOk (Txt.upper a) = true then some (.str (Txt.upper a), r1) else none
  | _ => none
section
variable {X : Cx} {a e : Expr} {apos pos p : Pos} {o : Opd} {m n : SE}
theorem okE_join (ha : OkE X a m) (h : OkO X e o) (hs : starEach [e] X.env = [(false, eval e X.env)]) (hbase : attributeBase a "join" X.env (eval a X.env) = eval a X.env) (hline : (apos.endLine == pos.line) = true) :
    OkE X (.Call (.Attribute a "join" apos) [e] [] pos) (mJoin m o) := by
  intro P sg H r Q d r' S hm hq
  unfold mJoin at hm
  split at hm
  · rename_i z r1 e1
    split at hm
    · rename_i xs r2 e2
      split at hm
      · rename_i hc
        cases hm
        refine UE.of (pe_join UE.pe UE.pe hs hbase hline) (ha P sg H r _ _ _ S e1 fun v H1 E1 q1 => ?_)
        cases q1
        refine ⟨⟨_, rfl⟩, opdX_ok h E1.sim e2 fun u H2 E2 t _ => ?_⟩
        obtain ⟨l, rfl, sq⟩ := t
        exact ⟨z, l, xs, rfl, rfl, sq, hc.1, hq _ H2 (E1.trans E2) (.str _ hc.2)⟩
      · cases hm
    · cases hm
  · cases hm
theorem okN_split (ha : OkE X a m) (h : OkE X e n) (hs : starEach [e] X.env = [(false, eval e X.env)]) (hbase : attributeBase a "split" X.env (eval a X.env) = eval a X.env) (hline : (apos.endLine == pos.line) = true) :
    OkN X (.Call (.Attribute a "split" apos) [e] [] pos) (nSplit m n) := by
  intro P sg H r Q d r' S hm hq
  unfold nSplit at hm
  split at hm
  · rename_i z r1 e1
    split at hm
    · rename_i y r2 e2
      split at hm
      · rename_i hc
        cases hm
        refine UE.of (pe_split UE.pe UE.pe hs hbase hline) (ha P sg H r _ _ _ S e1 fun v H1 E1 q1 => ?_)
        cases q1
        refine ⟨⟨_, rfl⟩, h P sg H1 r1 _ _ _ E1.sim e2 fun u H2 E2 q2 => ?_⟩
        cases q2
        exact ⟨z, y, rfl, rfl, hc.1, hc.2.1, fun b hb => hq b _ _ ((E1.trans E2).newL hb (repL_strs hc.2.2))⟩
      · cases hm
    · cases hm
  · cases hm
def fStr : List D → Option D
  | [.int i] => if i.natAbs.log2 < 1920 then some (.str (Str.ofString (toString i))) else none
  | _ => none
def nSort (o : Opd) : SA := fun r => if o.here r then match o.pre r with
  | some (y, r') => match o.post true y r' with
    | some (.list ds) => match textsOf ds with
      | some xs => if xs.length < 64 then some ((sortT xs).map PyData.str, r') else none
      | none => none
    | _ => none
  | none => none else none
theorem okN_sort (hg : Gl X "sorted") (hm' : X.mg "sorted" = none) (h : OkO X e o) (N : NoStar X e [] pos) : OkN X (.Call (.Name "sorted" p) [e] [] pos) (nSort o) := by
  intro P sg H r Q d r' S hm hq
  unfold nSort at hm
  split at hm
  · rename_i h0
    split at hm
    · rename_i y r1 e1
      split at hm
      · rename_i ds e2
        split at hm
        · rename_i xs e3
          split at hm
          · rename_i h64
            cases hm
            refine UE.of (pe_callB cr_sortedS hg hm' (by decide +kernel) (pa_cons UE.pe pa_nil N.he) (by decide) (by decide) N.he N.hpl) ?_
            refine h P sg H r _ _ _ S e1 (fun v H1 E1 q1 => ?_) (here_of h0)
            obtain ⟨l, us, rfl, h1, r1', _⟩ := (q1.done E1.sim e2).list
            obtain ⟨rfl, ok⟩ := texts_rep e3 r1'
            refine ⟨l, xs, rfl, h1, h64, fun ys b pm so hb => ?_⟩
            have ey := sort_unique pm (sorted_pw ys so)
            subst ey
            exact hq b _ _ (E1.newL hb (repL_strs fun x hx => ok x (pm.mem_iff.mp hx)))
          · cases hm
        · cases hm
      · cases hm
    · cases hm
  · cases hm
end
end DL
namespace DL
open PySem PySem.Spec L2
section
variable {X : Cx} {e e2 : Expr} {apos cpos px pos : Pos} {x : Str} {i : Nat} {m n : SE}
def mPop (i : Nat) (m : SE) : SE := fun r => if notOwn r i then none else match m r with
  | some (.int k, r1) => match r1[i]? with
    | some (some (.own xs)) => match ixN xs.length k with
      | some j => match xs[j]? with | some y => if xs.length < 1000000 then some (y, r1.set i (some (.own (xs.eraseIdx j)))) else none | none => none
      | none => none
    | _ => none
  | _ => none
theorem RepL.erase {K L H} : ∀ {vs : List V} {ds : List D}, RepL K L H vs ds → ∀ j : Nat, RepL K L H (vs.eraseIdx j) (ds.eraseIdx j)
  | _, _, .nil, j => by simpa using RepL.nil
  | _, _, .cons r t, 0 => t
  | _, _, .cons r t, j + 1 => .cons r (t.erase j)
theorem okE_pop (hN : X.N[i]? = some x) (hv : Vis X.env.scope x) (hd : (x == ("__debug__" : Str)) = false) (hcd : (x == ("__classdict__" : Str)) = false) (h : OkE X e m) (hs : starEach [e] X.env = (false, eval e X.env) :: starEach [] X.env) (hline : (apos.endLine == cpos.line) = true) :
    OkE X (.Call (.Attribute (.Name x px) "pop" apos) [e] [] cpos) (mPop i m) := by
  intro P sg H r Q d r' S hm hq
  unfold mPop at hm
  split at hm
  · cases hm
  rename_i h0
  have e0 : ∃ zs, r[i]? = some (some (Sl.own zs)) := Classical.byContradiction fun z => h0 (notOwn_iff z)
  obtain ⟨zs, e0⟩ := e0
  split at hm
  · rename_i k r1 e1
    split at hm
    · rename_i xs e2
      split at hm
      · rename_i j e3
        split at hm
        · rename_i y e4
          split at hm
          · rename_i hl
            cases hm
            obtain ⟨p, us, p1, p2, p3⟩ := S.own i zs e0
            refine UE.of (pe_bm PySem.F.plainAttrs_list PySem.F.slot_list_pop PySem.F.type_list_pop mt_popAt (pe_var hN hv hd hcd) (pa_cons UE.pe pa_nil hs) rfl (by rw [hs]; rfl) hline hs rfl) ?_
            refine ⟨_, p1, .inl ⟨rfl, us, SqL.of p2⟩, h P sg H r _ _ r1 S e1 fun v H1 E1 q1 => ?_⟩
            cases q1
            obtain ⟨p', us', p1', p2', p3'⟩ := E1.sim.own i xs e2
            rw [p1] at p1'; cases p1'
            obtain ⟨w, w1, w2⟩ := p3'.get e4
            have ix := ixN_seq e3
            refine ⟨p, us', k, j, w, rfl, rfl, p2', by omega, by omega, by rw [p3'.length]; exact ix.1, w1, ?_⟩
            have E2 := E1.sim.updOwn e2 p1 (p3'.erase j)
            exact hq _ _ (E1.trans E2) (E2.rep w2)
          · cases hm
        · cases hm
      · cases hm
    · cases hm
  · cases hm
def mInsert (i : Nat) (m n : SE) : SE := fun r => if notOwn r i then none else match m r with
  | some (.int k, r1) => match n r1 with
    | some (y, r2) => match r2[i]? with
      | some (some (.own xs)) => if 0 ≤ k ∧ k < 1000000 ∧ xs.length < sizeLine then some (.none, r2.set i (some (.own (xs.take k.toNat ++ [y] ++ xs.drop k.toNat)))) else none
      | _ => none
    | none => none
  | _ => none
theorem okE_insert (hN : X.N[i]? = some x) (hv : Vis X.env.scope x) (hd : (x == ("__debug__" : Str)) = false) (hcd : (x == ("__classdict__" : Str)) = false) (h : OkE X e m) (h2 : OkE X e2 n) (hs : starEach [e, e2] X.env = (false, eval e X.env) :: starEach [e2] X.env) (hs2 : starEach [e2] X.env = (false, eval e2 X.env) :: starEach [] X.env) (hline : (apos.endLine == cpos.line) = true)
    (hfew : ((backTo cpos (starEach [e, e2] X.env)).all (fun x => !x.1) && (backToKw cpos (keywordEach [] X.env)).all (fun x => x.1.isSome) && decide ([e, e2].length + ([] : List Keyword).length + (if ([] : List Keyword).isEmpty then 0 else 1) < 30)) = true) (hpl : (backTo cpos (starEach [e2] X.env)).any (·.1) = false) :
    OkE X (.Call (.Attribute (.Name x px) "insert" apos) [e, e2] [] cpos) (mInsert i m n) := by
  intro P sg H r Q d r' S hm hq
  unfold mInsert at hm
  split at hm
  · cases hm
  rename_i h0
  have e0 : ∃ zs, r[i]? = some (some (Sl.own zs)) := Classical.byContradiction fun z => h0 (notOwn_iff z)
  obtain ⟨zs, e0⟩ := e0
  split at hm
  · rename_i k r1 e1
    split at hm
    · rename_i y r2 e3
      split at hm
      · rename_i xs e4
        split at hm
        · rename_i hl
          cases hm
          obtain ⟨p, us, p1, p2, p3⟩ := S.own i zs e0
          refine UE.of (pe_bm PySem.F.plainAttrs_list PySem.F.slot_list_insert PySem.F.type_list_insert mt_insert (pe_var hN hv hd hcd) (pa_cons UE.pe (pa_cons UE.pe pa_nil hs2) hs) rfl hfew hline hs hpl) ?_
          refine ⟨_, p1, .inl ⟨rfl, us, SqL.of p2⟩, h P sg H r _ _ r1 S e1 fun v H1 E1 q1 => h2 P sg H1 r1 _ _ _ E1.sim e3 fun u H2 E2 q2 => ?_⟩
          cases q1
          obtain ⟨p', us', p1', p2', p3'⟩ := E2.sim.own i xs e4
          rw [p1] at p1'; cases p1'
          refine ⟨p, us', k, u, rfl, rfl, p2', by rw [p3'.length]; exact hl.2.2, hl.1, by omega, ?_⟩
          have E3 := E2.sim.updOwn e4 p1 (((p3'.take k.toNat).append (.cons q2 .nil)).append (p3'.drop k.toNat))
          exact hq _ _ ((E1.trans E2).trans E3) .non
        · cases hm
      · cases hm
    · cases hm
  · cases hm
def repS (n : Int) (x : Str) : Str := ⟨(List.replicate n.toNat x.cps).foldl (· ++ ·) #[]⟩
def rMulS : R2 := fun x y H Q => ∃ a n, x = .str a ∧ y = .int n ∧ 2 ≤ n ∧ n ≤ 1000 ∧ 1 ≤ a.length ∧ a.length ≤ 1000 ∧ (repS n a).length ≤ sizeLine ∧ Q (.str (repS n a)) H
theorem op_mulS : OpR X (binaryOp .Mult) rMulS := by
  intro pins s sg H x y v u Q I rx ry h
  obtain ⟨a, n, rfl, rfl, h1, h2, h3, h4, h5, q⟩ := h
  obtain ⟨t, rfl⟩ := rx
  obtain ⟨t', rfl⟩ := ry
  have c : (n == 1 || a.length == 0) = false := by
    have c1 : (n == 1) = false := beq_eq_false_iff_ne.mpr (by omega)
    have c2 : (a.length == 0) = false := beq_eq_false_iff_ne.mpr (by omega)
    rw [c1, c2]; rfl
  refine PySem.P.mul_str ?_ (fun _ _ => ?_) (fun _ _ => ?_) ?_
  · simp; omega
  · have : (2 ^ 63 - 1) / 1000 ≤ (2 ^ 63 - 1) / n := by
      refine Int.le_ediv_of_mul_le (by omega) ?_
      have : (2 ^ 63 - 1) / 1000 * n ≤ (2 ^ 63 - 1) / 1000 * 1000 := Int.mul_le_mul_of_nonneg_left h2 (by decide)
      omega
    omega
  · refine decide_eq_false ?_
    have e1 : a.length * n.toNat ≤ 1000 * 1000 := Nat.mul_le_mul h4 (by omega)
    have e2 : 1000 * 1000 ≤ sizeLine := by decide
    omega
  · rw [if_neg (by omega), c, if_neg Bool.false_ne_true]
    exact ⟨h5, ⟨.str (repS n a), H, I.tok _, ⟨_, rfl⟩, q⟩⟩
end
end DL
namespace DL
open PySem PySem.Spec L2
section
variable {X : Cx} {N : List Str} {sc : Scope} {e e2 : Expr} {apos cpos px pos p : Pos} {x : Str} {i : Nat} {m n : SE}
def fMul2 (x y : D) : Option D := match x with
  | .str a => match y with
    | .int k => if 2 ≤ k ∧ k ≤ 1000 ∧ 1 ≤ a.length ∧ a.length ≤ 1000 ∧ (repS k a).length ≤ sizeLine ∧ PyData.strOk (repS k a) = true then some (.str (repS k a)) else none
    | _ => none
  | _ => fMul x y
theorem opS_mul2 : OpS false X (binaryOp .Mult) fMul2 := by
  intro P sg H r v u x y z Q S hx hy hz hq
  unfold fMul2 at hz
  split at hz
  · split at hz
    · split at hz
      · rename_i hc
        cases hz
        exact ⟨_, op_mulS, _, _, hx.str.1, hy.int, hc.1, hc.2.1, hc.2.2.1, hc.2.2.2.1, hc.2.2.2.2.1, hq _ H (Ext.refl S) (.str _ hc.2.2.2.2.2)⟩
      · cases hz
    · cases hz
  · exact opS_mul P sg H r v u x y z Q S hx hy hz hq
/-- a tuple of texts that the module's top has made -/
def TxtTup (K : PySem.W.Frag) (mg : Str → Option Value) (x : Str) (zs : List Str) : Prop := ∃ a, mg x = some (.ref a) ∧ KT K a (zs.map V.str)
theorem okE_gtup {zs : List Str} (hg : Gl X x) (hm : TxtTup X.K X.mg x zs) (hz : ∀ z ∈ zs, PyData.strOk z = true) (hd : (x == ("__debug__" : Str)) = false) : OkE X (.Name x pos) (j8 (.tuple (zs.map PyData.str))) := by
  obtain ⟨a, hm, hk⟩ := hm
  exact okE_cst (pe_glob (v := .ref a) hg hm rfl hd) fun _ _ => .ktup hk (repL_strs hz)
theorem Sc.pop (C : Sc X N sc) (i : Nat) (h : nmB N sc i x = true) (he : OkE X e m) (hs : starEach [e] X.env = (false, eval e X.env) :: starEach [] X.env) (hline : (apos.endLine == cpos.line) = true) : OkE X (.Call (.Attribute (.Name x px) "pop" apos) [e] [] cpos) (mPop i m) := by
  obtain ⟨q1, q2, q3, q4⟩ := nmB_ok h
  exact okE_pop (by rw [C.n]; exact q1) (by rw [C.s]; exact q2) q3 q4 he hs hline
theorem Sc.ins (C : Sc X N sc) (i : Nat) (h : nmB N sc i x = true) (he : OkE X e m) (he2 : OkE X e2 n) (hs : starEach [e, e2] X.env = (false, eval e X.env) :: starEach [e2] X.env) (hs2 : starEach [e2] X.env = (false, eval e2 X.env) :: starEach [] X.env) (hline : (apos.endLine == cpos.line) = true)
    (hfew : ((backTo cpos (starEach [e, e2] X.env)).all (fun x => !x.1) && (backToKw cpos (keywordEach [] X.env)).all (fun x => x.1.isSome) && decide ([e, e2].length + ([] : List Keyword).length + (if ([] : List Keyword).isEmpty then 0 else 1) < 30)) = true) (hpl : (backTo cpos (starEach [e2] X.env)).any (·.1) = false) :
    OkE X (.Call (.Attribute (.Name x px) "insert" apos) [e, e2] [] cpos) (mInsert i m n) := by
  obtain ⟨q1, q2, q3, q4⟩ := nmB_ok h
  exact okE_insert (by rw [C.n]; exact q1) (by rw [C.s]; exact q2) q3 q4 he he2 hs hs2 hline hfew hpl
end
end DL
namespace DL
open PySem PySem.Spec L2 PyProof.Rows
theorem fm_map {α β : Type} {f : α → Option β} {g : α → β} : ∀ {l : List α}, (∀ m ∈ l, f m = some (g m)) → l.filterMap f = l.map g
  | [], _ => rfl
  | x :: l, h => by rw [List.filterMap_cons, h x List.mem_cons_self, fm_map fun m hm => h m (List.mem_cons_of_mem _ hm)]; rfl
theorem pick_back (xs : Array Value) : ((List.range xs.size).filterMap fun (m : Nat) => xs[((xs.size : Int) - 1 + (m : Int) * (-1)).toNat]?).toArray = xs.toList.reverse.toArray := by
  congr 1
  apply List.ext_getElem?
  intro j
  have e : (List.range xs.size).filterMap (fun (m : Nat) => xs[((xs.size : Int) - 1 + (m : Int) * (-1)).toNat]?) = (List.range xs.size).map (fun m => (xs[xs.size - 1 - m]?).getD Value.none) := by
    refine fm_map fun m hm => ?_
    have hm := List.mem_range.mp hm
    have e1 : ((xs.size : Int) - 1 + (m : Int) * (-1)).toNat = xs.size - 1 - m := by omega
    rw [e1]
    have : xs.size - 1 - m < xs.size := by omega
    simp [this]
  rw [e, List.getElem?_map]
  by_cases h : j < xs.size
  · rw [List.getElem?_range h, List.getElem?_reverse (by simpa using h), Array.length_toList, Array.getElem?_toList]
    have : xs.size - 1 - j < xs.size := by omega
    simp [this]
  · rw [List.getElem?_eq_none (by simpa using h), List.getElem?_eq_none (by simpa using h)]
    rfl
section
variable {P : Program} {w : World} {A : Around} {E : Value → Shared → Prop} {st : Shared}
theorem applied_back {sl : Addr} {vs : Value} {n : Nat} {Q : Int × Int × Nat → Shared → Prop} (hs : st.heap.IsSliceOf sl .none .none vs) (ps : IsPart vs (some (-1))) (h : Q ((n : Int) - 1, -1, n) st) :
    wpAny (model P w) A (Builtin.Slice.sliceApplied (.ref sl) (pure (n : Int))) Q E st := by
  obtain ⟨os, e1, e2, e3⟩ := id hs
  unfold Builtin.Slice.sliceApplied Builtin.Slice.sliceFields
  refine wpAny_bind (wpAny_bind (wpAny_field e1 e3 (x := .none) rfl (wpAny_bind (wpAny_field e1 e3 (x := .none) rfl (wpAny_bind (wpAny_field e1 e3 (x := vs) rfl (wpAny_pure ?_)))))))
  refine wpAny_bind (HT.slicePart_ ps ?_)
  show wpAny _ _ (if ((-1 : Int) == 0) = true then _ else _) _ _ st
  rw [if_neg (by decide)]
  refine wpAny_bind (HT.slicePart_ .none (wpAny_bind (HT.slicePart_ .none (wpAny_bind (wpAny_pure ?_)))))
  show wpAny _ _ (pure ((n : Int) - 1, (-1 : Int), Builtin.Slice.slicePlaces ((n : Int) - 1) (-1) (-1))) _ _ st
  have e : Builtin.Slice.slicePlaces ((n : Int) - 1) (-1) (-1) = n := by
    unfold Builtin.Slice.slicePlaces
    rw [if_neg (by decide)]
    split
    · rw [show -(-1 : Int) = 1 from rfl, Int.ediv_one]; omega
    · omega
  rw [e]
  exact wpAny_pure h
theorem item_back {t sl : Addr} {its : Array Value} {vs : Value} {Q : Value → Shared → Prop} (ht : IsTup st.heap t its) (hs : st.heap.IsSliceOf sl .none .none vs) (ps : IsPart vs (some (-1)))
    (h : Q (.ref st.heap.objs.size) { st with heap := st.heap.push { cls := .type "tuple", data := .seq its.toList.reverse.toArray } }) (hz : its.size ≤ sizeLine) : wpAny (model P w) A (getItem (.ref t) (.ref sl)) Q E st := by
  have ok : sizeOk (.seq its.toList.reverse.toArray) := by
    show its.toList.reverse.toArray.size ≤ sizeLine
    rw [List.size_toArray, List.length_reverse, Array.length_toList]
    exact hz
  obtain ⟨os, e1, e2, e3⟩ := id hs
  have ts : st.TypeIs (.ref sl) "slice" := ⟨os, e1, e2⟩
  unfold getItem
  try with_reducible refine wpAny_holding ?_
  first | refine wpAny_bind (wpAny_pure ?_) | skip
  refine wpAny_bind (wpAny_sequenceKey ht.typeIs (by decide) ?_)
  refine wpAny_bind (wpAny_callSpecial?_slot (name := Str.ofString "__getitem__") ht.typeIs PyProof.Rows.slot_tuple_getitem (wpAny_call_entry PyProof.Rows.slot_tuple_getitem ht.typeIs entry_tuple_getitem ?_ (args_tuple_getitem _ _)))
  show wpAny _ _ (Builtin.Tuple.tupleItemsOf (.ref t) >>= _) _ _ st
  refine wpAny_bind (tupleItemsOf_ ht ?_)
  refine wpAny_bind (wpAny_typeOf ts ?_)
  rw [if_pos (by decide)]
  refine wpAny_bind (applied_back hs ps ?_)
  have no : ¬ ((((its.size : Int) - 1) == 0 && (-1 : Int) == 1 && its.size == its.size) = true) := by
    rw [show ((-1 : Int) == 1) = false from rfl, Bool.and_false, Bool.false_and]
    exact Bool.false_ne_true
  show wpAny _ _ (if (((its.size : Int) - 1) == 0 && (-1 : Int) == 1 && its.size == its.size) = true then _ else _) _ _ st
  rw [if_neg no, pick_back]
  first
    | exact wpAny_bind (m := Builtin.Tuple.tupleExact _) (wpAny_newObj_type (wpAny_pure ⟨_, rfl, wpAny_pure h⟩) ok)
    | exact wpAny_bind (m := Builtin.Tuple.tupleExact _) (wpAny_newObj_type (wpAny_bind (wpAny_pure (wpAny_pure ⟨_, rfl, wpAny_pure h⟩))) ok)
    | exact wpAny_bind (wpAny_bind (m := Builtin.Tuple.tupleExact _) (wpAny_newObj_type (wpAny_pure (wpAny_pure ⟨_, rfl, wpAny_pure h⟩)) ok))
    | exact wpAny_bind (wpAny_bind (m := Builtin.Tuple.tupleExact _) (wpAny_newObj_type (wpAny_pure ⟨_, rfl, wpAny_pure h⟩) ok))
end
section
variable {X : Cx} {e : Expr} {k : Nat} {p1 p2 p3 pos : Pos} {sg : L2.St} {H : Hp} {Q : VK} {oa : Opd}
theorem ue_revT (h : UE X e sg H fun v H1 => ∃ a xs, v = .ref a ∧ SqT X.K H1 a xs ∧ ∀ p, H1 p = none → Q (.ref p) (upd H1 p (.tup xs.reverse))) :
    UE X (.Subscript e (.Slice none none (some (.UnaryOp .USub (.Constant (.int 1) k p1) p2)) p3) pos) sg H Q := by
  intro pins st I
  refine Subscript_ (thn (h pins st I) fun v s1 z => ?_)
  obtain ⟨x, H1, I1, r1, a, xs, rfl, sq, q⟩ := z
  cases r1
  have hst : PO X (some (.UnaryOp .USub (.Constant (.int 1) k p1) p2)) (tPart (tUn (rU fun i => .int (-i)) (tC (.int 1)))) := po_some (pe_un un_neg pe_int)
  refine wpAny_Slice (thn (po_none.run pins s1 sg H1 (fun o H2 => o = none ∧ H2 = H1) I1 ⟨rfl, rfl⟩) fun vl s2 z2 => ?_)
  obtain ⟨l, H2, I2, pl, rfl, rfl⟩ := z2
  refine thn (po_none.run pins s2 sg H2 (fun o H3 => o = none ∧ H3 = H2) I2 ⟨rfl, rfl⟩) fun vu s3 z3 => ?_
  obtain ⟨u, H3, I3, pu, rfl, rfl⟩ := z3
  refine thn (hst.run pins s3 sg H3 (fun o H4 => o = some (-1) ∧ H4 = H3) I3 ⟨1, rfl, -1, rfl, rfl, rfl⟩) fun vs s4 z4 => ?_
  obtain ⟨o, H4, I4, ps, rfl, rfl⟩ := z4
  cases pl
  cases pu
  have I5 : L2.Inv X pins sg H4 { s4 with heap := s4.heap.push { cls := .type "slice", data := .fields #[.none, .none, vs] } } := I4.kept (t' := s4.toks) fun b ob q => Heap.get?_push_of_some _ q
  obtain ⟨its, r, ht, hz⟩ := I5.tuple sq
  have hl := r.length
  refine tail_any (ops := [.ref a, .ref s4.heap.objs.size]) ht.typeIs (PyProof.Rows.slot_tuple_getitem.lookup) ?_ (by with_unfolding_all rfl)
  refine item_back ht (Heap.IsSliceOf.new _ .none .none vs) ps ?_ (by rw [List.size_toArray]; omega)
  refine ⟨.ref _, _, I5.laid (t' := s4.toks) (o := .tup xs.reverse) (fun b ob q => Heap.get?_push_of_some _ q) (Nat.le_refl _) ?_, rfl, q _ (I5.hok.fresh (Nat.le_refl _))⟩
  exact ⟨by rw [List.length_reverse]; exact hz, _, r.reverse, _, Heap.get?_push_size _ rfl, rfl, 0, by simp⟩
def mRev2 (oa : Opd) : SE := fun r => if oa.here r then match oa.pre r with
  | some (x, r1) => match oa.post true x r1 with
    | some (.list ds) => some (.list ds.reverse, r1)
    | some (.tuple ds) => some (.tuple ds.reverse, r1)
    | _ => none
  | none => none else none
theorem okE_rev2 (ha : OkO X e oa) : OkE X (.Subscript e (.Slice none none (some (.UnaryOp .USub (.Constant (.int 1) k p1) p2)) p3) pos) (mRev2 oa) := by
  intro P sg H r Q d r' S hm hq
  unfold mRev2 at hm
  split at hm
  · rename_i h0
    split at hm
    · rename_i x r1 e1
      split at hm
      · rename_i ds e2
        cases hm
        refine UE.of (pe_revL UE.pe) (ha P sg H r _ _ _ S e1 (fun v H1 E1 q1 => ?_) (here_of h0))
        obtain ⟨p, vs, rfl, h1, r1, _⟩ := (q1.done E1.sim e2).list
        exact ⟨p, vs, rfl, h1, fun q hn => hq _ _ (E1.trans (E1.sim.new _ hn)) (E1.sim.newLst hn r1.reverse)⟩
      · rename_i ds e2
        cases hm
        refine ue_revT (ha P sg H r _ _ _ S e1 (fun v H1 E1 q1 => ?_) (here_of h0))
        obtain ⟨p, vs, rfl, h1, r1⟩ := (q1.done E1.sim e2).tuple
        exact ⟨p, vs, rfl, h1, fun q hn => hq _ _ (E1.trans (E1.sim.new _ hn)) (E1.sim.newTup hn r1.reverse)⟩
      · cases hm
    · cases hm
  · cases hm
end
end DL
namespace DL
open PySem PySem.Spec L2
def isStar : Expr → Bool
  | .Starred _ _ => true
  | _ => false
def noStars : List Expr → Bool
  | [] => true
  | e :: es => !isStar e && noStars es
theorem sE {e : Expr} {es : List Expr} {env : PySem.Env} (h : isStar e = false) : starEach (e :: es) env = (false, eval e env) :: starEach es env := by
  cases e <;> first | (cases h; done) | rw [starEach]
  all_goals (intro _ _ z; cases z)
theorem sA {es : List Expr} {pos : Pos} {env : PySem.Env} (h : noStars es = true) : (backTo pos (starEach es env)).any (·.1) = false := by
  induction es with
  | nil => rw [starEach]; rfl
  | cons e es ih =>
    simp only [noStars, Bool.and_eq_true, Bool.not_eq_true'] at h
    rw [sE h.1]
    have := ih h.2
    unfold backTo at this ⊢
    simp only [List.map_cons, List.any_cons, Bool.false_or]
    exact this
theorem sN {X : Cx} {e : Expr} {es : List Expr} {pos : Pos} (h : noStars (e :: es) = true) : NoStar X e es pos := by
  simp only [noStars, Bool.and_eq_true, Bool.not_eq_true'] at h
  exact ⟨sE h.1, sA h.2⟩
theorem s1 {e : Expr} {env : PySem.Env} (h : isStar e = false) : starEach [e] env = [(false, eval e env)] := by rw [sE h, starEach]
theorem s2 {e e2 : Expr} {env : PySem.Env} (h : isStar e = false) (h2 : isStar e2 = false) : starEach [e, e2] env = [(false, eval e env), (false, eval e2 env)] := by rw [sE h, sE h2, starEach]
end DL
namespace DL
open PySem PySem.Spec L2
section
variable {X : Cx} {N : List Str} {sc : Scope} {x : Str} {pos pos2 : Pos}
theorem Sc.retO {io : List Nat} (C : Sc X N sc) (i : Nat) (h : nmB N sc i x = true) (hi : i ∉ io) : OkS X io (.Return (some (.Name x pos)) pos2) (sRetO i) := by
  obtain ⟨h1, h2, h3, h4⟩ := nmB_ok h
  exact okS_retO (by rw [C.n]; exact h1) (by rw [C.s]; exact h2) h3 h4 hi
end
end DL
namespace DL
open PySem PySem.Spec L2
def mExtend (i : Nat) (m : SE) : SE := fun r => if notOwn r i then none else match m r with
  | some (.list ys, r1) => match r1[i]? with
    | some (some (.own xs)) => if xs.length + ys.length ≤ sizeLine then some (.none, r1.set i (some (.own (xs ++ ys)))) else none
    | _ => none
  | _ => none
section
variable {X : Cx} {i : Nat} {x : Str} {e : Expr} {px apos cpos : Pos}
theorem okE_extend {m : SE} (hN : X.N[i]? = some x) (hv : Vis X.env.scope x) (hd : (x == ("__debug__" : Str)) = false) (hcd : (x == ("__classdict__" : Str)) = false) (h : OkE X e m) (hs : starEach [e] X.env = (false, eval e X.env) :: starEach [] X.env) (hline : (apos.endLine == cpos.line) = true) :
    OkE X (.Call (.Attribute (.Name x px) "extend" apos) [e] [] cpos) (mExtend i m) := by
  intro P sg H r Q d r' S hm hq
  unfold mExtend at hm
  split at hm
  · cases hm
  rename_i h0
  have e0 : ∃ zs, r[i]? = some (some (Sl.own zs)) := Classical.byContradiction fun z => h0 (notOwn_iff z)
  obtain ⟨zs, e0⟩ := e0
  split at hm
  · rename_i ys r1 e1
    split at hm
    · rename_i xs e2
      split at hm
      · rename_i hl
        cases hm
        obtain ⟨p, us, p1, p2, p3⟩ := S.own i zs e0
        refine UE.of (pe_bm PySem.F.plainAttrs_list PySem.F.slot_list_extend PySem.F.type_list_extend mt_extend (pe_var hN hv hd hcd) (pa_cons UE.pe pa_nil hs) rfl (by rw [hs]; rfl) hline hs rfl) ?_
        refine ⟨_, p1, .inl ⟨rfl, us, SqL.of p2⟩, h P sg H r _ _ r1 S e1 fun v H1 E1 q1 => ?_⟩
        cases q1 with
        | @lst b vs ds k1 k2 k3 =>
          obtain ⟨p', us', p1', p2', p3'⟩ := E1.sim.own i xs e2
          rw [p1] at p1'; cases p1'
          refine ⟨p, b, us', vs, rfl, rfl, p2', k1, by rw [p3'.length, k3.length]; exact hl, ?_⟩
          have E2 := E1.sim.updOwn e2 p1 (p3'.append k3)
          exact hq _ _ (E1.trans E2) .non
      · cases hm
    · cases hm
  · cases hm
end
theorem Sc.ext {X : Cx} {N : List Str} {sc : Scope} {x : Str} {e : Expr} {px apos cpos : Pos} {m : SE} (C : Sc X N sc) (i : Nat) (h : nmB N sc i x = true) (he : OkE X e m) (hs : starEach [e] X.env = (false, eval e X.env) :: starEach [] X.env) (hline : (apos.endLine == cpos.line) = true) : OkE X (.Call (.Attribute (.Name x px) "extend" apos) [e] [] cpos) (mExtend i m) := by
  obtain ⟨h1, h2, h3, h4⟩ := nmB_ok h
  exact okE_extend (by rw [C.n]; exact h1) (by rw [C.s]; exact h2) h3 h4 he hs hline
def putE (i : Nat) (k : SE) (y : D) : DL.Env → Option DL.Env := fun r => if notOwn r i then none else match k r with
  | some (.int n, r2) => match r2[i]? with
    | some (some (.own xs)) => match ixN xs.length n with | some j => some (r2.set i (some (.own (xs.set j y)))) | none => none
    | _ => none
  | _ => none
def sPut2 (i : Nat) (k1 k2 m : SE) : SS := fun r => match m r with
  | some (.tuple [y1, y2], r1) => match putE i k1 y1 r1 with
    | some r2 => match putE i k2 y2 r2 with | some r3 => some (.nx, r3) | none => none
    | none => none
  | _ => none
def mFnS (F : FSem) (o1 o2 : Opd) : SE := fun r => match preAll [o1, o2] r with
  | some ([y1, y2], r1) => match args [o2, o1] [y2, y1] r1 with
    | some as => if (given [o2, o1] as).Nodup then match F as with
      | some (d, as') => some (d, back [o2, o1] as' r1)
      | none => none else none
    | none => none
  | _ => none
end DL
namespace DL
open PySem PySem.Spec L2
def lookS (z : Str) : List (Str × D) → Option D
  | [] => none
  | (k, d) :: r => if k = z then some d else lookS z r
/-- e1[e2], e1 a dict that is made there -/
def mDix (kvs : List (Str × D)) (m : SE) : SE := fun r => match m r with
  | some (.str z, r1) => match lookS z kvs with | some d => some (d, r1) | none => none
  | _ => none
/-- x.get(e), x a name -/
def dctB : Option (Option Sl) → Option (List (Str × D))
  | some (some (.scr (.dct kvs))) => some kvs
  | _ => none
def mDGet (i : Nat) (m : SE) : SE := fun r => match dctB r[i]? with
  | some kvs => match m r with
    | some (.str z, r1) => match dctB r1[i]? with
      | some kvs' => some ((lookS z kvs').getD .none, r1)
      | none => none
    | _ => none
  | none => none
end DL
namespace DL
open PySem PySem.Spec L2
end DL
namespace DL
open PySem PySem.Spec L2
def mKGet (kvs : List (Str × D)) (m : SE) (dflt : D) : SE := fun r => match m r with
  | some (.str z, r1) => some ((lookS z kvs).getD dflt, r1)
  | _ => none
theorem tup_of {K : PySem.W.Frag} {mg : Str → Option Value} {x : Str} {zs : List Str} {a : Addr} {od : Option Addr} {its : Array Value} {n : Nat} {sl : Array (Option Value)} (hm : mg x = some (.ref a)) (hl : K.lookup a = some ⟨.type "tuple", od, .seq its n, sl⟩) (hz : its.size ≤ sizeLine) (hv : Vals (zs.map V.str) its.toList) : TxtTup K mg x zs := ⟨a, hm, _, its, n, hl, rfl, rfl, hz, hv⟩
end DL
namespace DL
open PySem PySem.Spec L2
theorem Room.un2 {k : Nat} {A : Around} (hr : RoomG k A) : A.units + 1 < cLine := by
  have := Room.un65 hr
  omega
end DL
namespace GH
open PySem PySem.Spec L2
abbrev D := PyData
inductive CV where
  | d (x : D) | ref (n : Nat) | tup (xs : List CV) | scr (ns : List Int)
inductive CO where
  | lst (xs : List CV) | dct (kvs : List (Key × CV)) | dtt (kvs : List (List Key × CV)) | ins (c : Nat) (fs : List CV) | tbl (i : Nat)
abbrev Hh := List CO
abbrev Fr := List (Option CV)
/-- a class: where it stands, its attributes in the order in which they are stored first -/
structure Cl where
  C : Addr
  fs : List Str
abbrev CT := Nat → Cl
/-- what is changed, or looked after -/
def Lx (P : Addr → Prop) (ρ : List Addr) (a : Addr) : Prop := a ∈ ρ ∨ P a
mutual
inductive VR (K : PySem.W.Frag) (P : Addr → Prop) (ρ : List Addr) (H : Hp) : CV → V → Prop
  | d {x : D} {v : V} : DL.Rep K (Lx P ρ) H v x → VR K P ρ H (.d x) v
  | ref {n : Nat} {a : Addr} : ρ[n]? = some a → VR K P ρ H (.ref n) (.ref a)
  | tup {xs : List CV} {vs : List V} {a : Addr} : H a = some (.tup vs) → ¬ Lx P ρ a → VRL K P ρ H xs vs → VR K P ρ H (.tup xs) (.ref a)
  | scr {ns : List Int} {a : Addr} : DL.ScrAt K (Lx P ρ) H a ns → VR K P ρ H (.scr ns) (.ref a)
inductive VRL (K : PySem.W.Frag) (P : Addr → Prop) (ρ : List Addr) (H : Hp) : List CV → List V → Prop
  | nil : VRL K P ρ H [] []
  | cons {x : CV} {v : V} {xs : List CV} {vs : List V} : VR K P ρ H x v → VRL K P ρ H xs vs → VRL K P ρ H (x :: xs) (v :: vs)
end
/-- what stood ahead stands behind -/
structure Up (P : Addr → Prop) (ρ : List Addr) (H : Hp) (P' : Addr → Prop) (ρ' : List Addr) (H' : Hp) : Prop where
  pre : ∀ (n : Nat) (a : Addr), ρ[n]? = some a → ρ'[n]? = some a
  later : DL.Later (Lx P ρ) H (Lx P' ρ') H'
  ext : ∀ a φ, H a = some (.ext φ) → H' a = some (.ext φ)
section
variable {K : PySem.W.Frag} {P P' P2 : Addr → Prop} {ρ ρ' ρ2 : List Addr} {H H' H2 : Hp}
theorem Up.refl : Up P ρ H P ρ H := ⟨fun _ _ h => h, DL.Later.refl, fun _ _ h => h⟩
theorem Up.trans (a : Up P ρ H P' ρ' H') (b : Up P' ρ' H' P2 ρ2 H2) : Up P ρ H P2 ρ2 H2 := ⟨fun n c e => b.pre n c (a.pre n c e), a.later.trans b.later, fun c φ e => b.ext c φ (a.ext c φ e)⟩
mutual
theorem VR.up (m : Up P ρ H P' ρ' H') : ∀ {x : CV} {v : V}, VR K P ρ H x v → VR K P' ρ' H' x v
  | _, _, .d r => .d (r.mono m.later)
  | _, _, .ref h => .ref (m.pre _ _ h)
  | _, _, .tup h n r => .tup (m.later _ _ h n).1 (m.later _ _ h n).2 (VRL.up m r)
  | _, _, .scr h => .scr (h.map fun o h2 h3 => m.later _ _ h2 h3)
theorem VRL.up (m : Up P ρ H P' ρ' H') : ∀ {x : List CV} {v : List V}, VRL K P ρ H x v → VRL K P' ρ' H' x v
  | _, _, .nil => .nil
  | _, _, .cons r t => .cons (VR.up m r) (VRL.up m t)
end
theorem VRL.length : ∀ {x : List CV} {v : List V}, VRL K P ρ H x v → v.length = x.length
  | _, _, .nil => rfl
  | _, _, .cons _ t => congrArg (· + 1) (VRL.length t)
theorem VRL.get : ∀ {x : List CV} {v : List V} {i : Nat} {y : CV}, VRL K P ρ H x v → x[i]? = some y → ∃ u, v[i]? = some u ∧ VR K P ρ H y u
  | _, _, i, y, .nil, e => by simp at e
  | _, _, 0, y, .cons r _, e => by simp at e; subst e; exact ⟨_, rfl, r⟩
  | _, _, i + 1, y, .cons _ t, e => by
    obtain ⟨u, h1, h2⟩ := VRL.get (i := i) (y := y) t (by simpa using e)
    exact ⟨u, by simpa using h1, h2⟩
theorem VRL.append : ∀ {x x' : List CV} {v v' : List V}, VRL K P ρ H x v → VRL K P ρ H x' v' → VRL K P ρ H (x ++ x') (v ++ v')
  | _, _, _, _, .nil, s => s
  | _, _, _, _, .cons r t, s => .cons r (VRL.append t s)
theorem VRL.take : ∀ {x : List CV} {v : List V} (n : Nat), VRL K P ρ H x v → VRL K P ρ H (x.take n) (v.take n)
  | _, _, 0, _ => .nil
  | _, _, _ + 1, .nil => .nil
  | _, _, n + 1, .cons r t => .cons r (VRL.take n t)
theorem VRL.drop : ∀ {x : List CV} {v : List V} (n : Nat), VRL K P ρ H x v → VRL K P ρ H (x.drop n) (v.drop n)
  | _, _, 0, r => r
  | _, _, _ + 1, .nil => .nil
  | _, _, n + 1, .cons _ t => VRL.drop n t
theorem VRL.set {y : CV} {u : V} (r : VR K P ρ H y u) : ∀ {x : List CV} {v : List V} (i : Nat), VRL K P ρ H x v → VRL K P ρ H (x.set i y) (v.set i u)
  | _, _, _, .nil => .nil
  | _, _, 0, .cons _ t => .cons r t
  | _, _, i + 1, .cons q t => .cons q (VRL.set r i t)
theorem VRL.eraseIdx : ∀ {x : List CV} {v : List V} (i : Nat), VRL K P ρ H x v → VRL K P ρ H (x.eraseIdx i) (v.eraseIdx i)
  | _, _, _, .nil => .nil
  | _, _, 0, .cons _ t => t
  | _, _, i + 1, .cons q t => .cons q (VRL.eraseIdx i t)
theorem VRL.reverse : ∀ {x : List CV} {v : List V}, VRL K P ρ H x v → VRL K P ρ H x.reverse v.reverse
  | _, _, .nil => .nil
  | _, _, .cons r t => by rw [List.reverse_cons, List.reverse_cons]; exact (VRL.reverse t).append (.cons r .nil)
/-- data among them -/
def dat : CV → Option D
  | .d x => some x
  | _ => none
def dats : List CV → Option (List D)
  | [] => some []
  | .d x :: xs => match dats xs with | some ds => some (x :: ds) | none => none
  | _ :: _ => none
theorem dats_map : ∀ ds : List D, dats (ds.map CV.d) = some ds
  | [] => rfl
  | d :: ds => by rw [List.map_cons, dats, dats_map ds]
theorem dats_eq : ∀ {xs : List CV} {ds : List D}, dats xs = some ds → xs = ds.map CV.d
  | [], ds, h => by cases h; rfl
  | .d x :: xs, ds, h => by
    unfold dats at h
    split at h
    · rename_i es e; cases h; rw [List.map_cons, dats_eq e]
    · cases h
  | .ref _ :: _, _, h => by cases h
  | .tup _ :: _, _, h => by cases h
  | .scr _ :: _, _, h => by cases h
theorem VRL.rep : ∀ {ds : List D} {vs : List V}, VRL K P ρ H (ds.map CV.d) vs → DL.RepL K (Lx P ρ) H vs ds
  | [], _, .nil => .nil
  | _ :: _, _, .cons (.d r) t => .cons r (VRL.rep t)
theorem VRL.ofRep : ∀ {ds : List D} {vs : List V}, DL.RepL K (Lx P ρ) H vs ds → VRL K P ρ H (ds.map CV.d) vs
  | _, _, .nil => .nil
  | _, _, .cons r t => .cons (.d r) (VRL.ofRep t)
end
/-- an object in the heap -/
def OR (K : PySem.W.Frag) (ct : CT) (P : Addr → Prop) (ρ : List Addr) (H : Hp) (a : Addr) : CO → Prop
  | .lst xs => ∃ vs, H a = some (.lst vs) ∧ VRL K P ρ H xs vs
  | .dct kvs => ∃ vs, H a = some (.dK vs) ∧ vs.map (·.1) = kvs.map (·.1) ∧ VRL K P ρ H (kvs.map (·.2)) (vs.map (·.2))
  | .dtt kvs => ∃ vs, H a = some (.dT vs) ∧ vs.map (·.1) = kvs.map (·.1) ∧ VRL K P ρ H (kvs.map (·.2)) (vs.map (·.2))
  | .ins c fs => ∃ dx vs, H a = some (.ins (ct c).C dx vs) ∧ vs.map (·.1) = (ct c).fs.take fs.length ∧ VRL K P ρ H fs (vs.map (·.2))
  | .tbl i => a = (ct i).C ∧ ∃ q, (ct i).fs = [q] ∧ ∃ ps : Array Value, H a = some (.tbl ps) ∧ TriplesOk ps.toList ∧ ∀ (pos : Pos) (cv : Value), codeAmong pos ps.toList = some cv → ∃ c, cv = .ref c ∧ H c = some (LamX.CodeO c q)
structure Rl (K : PySem.W.Frag) (ct : CT) (P : Addr → Prop) (ρ : List Addr) (H : Hp) (h : Hh) : Prop where
  len : ρ.length = h.length
  nd : ρ.Nodup
  obj : ∀ (n : Nat) o a, h[n]? = some o → ρ[n]? = some a → OR K ct P ρ H a o
  prot : ∀ a, P a → ∃ o, H a = some o
  apart : ∀ a, P a → a ∉ ρ
structure Ex (K : PySem.W.Frag) (ct : CT) (P : Addr → Prop) (ρ : List Addr) (H : Hp) (ρ' : List Addr) (H' : Hp) (h' : Hh) : Prop where
  rl : Rl K ct P ρ' H' h'
  up : Up P ρ H P ρ' H'
  kp : ∀ a o, H a = some o → a ∉ ρ → H' a = some o
def FR (K : PySem.W.Frag) (P : Addr → Prop) (ρ : List Addr) (H : Hp) (fr : Fr) (sg : St) : Prop := sg.length = fr.length ∧ ∀ (i : Nat) x, fr[i]? = some (some x) → ∃ v, sg[i]? = some (some v) ∧ VR K P ρ H x v
section
variable {K : PySem.W.Frag} {ct : CT} {P P' P2 : Addr → Prop} {ρ ρ' ρ2 : List Addr} {H H' H2 : Hp} {h h' h2 : Hh} {fr : Fr} {sg : St}
/-- the object's kind is none of the data's -/
theorem OR.some {a : Addr} {o : CO} (x : OR K ct P ρ H a o) : ∃ u, H a = Option.some u ∧ ((∀ vs, u ≠ .tup vs) ∧ ∀ φ, u ≠ .ext φ) := by
  cases o with
  | lst xs => obtain ⟨vs, e, _⟩ := x; exact ⟨_, e, (fun _ z => by cases z), (fun _ z => by cases z)⟩
  | dct xs => obtain ⟨vs, e, _⟩ := x; exact ⟨_, e, (fun _ z => by cases z), (fun _ z => by cases z)⟩
  | dtt xs => obtain ⟨vs, e, _⟩ := x; exact ⟨_, e, (fun _ z => by cases z), (fun _ z => by cases z)⟩
  | ins c xs => obtain ⟨dx, vs, e, _⟩ := x; exact ⟨_, e, (fun _ z => by cases z), (fun _ z => by cases z)⟩
  | tbl q => obtain ⟨_, _, _, ps, e, _⟩ := x; exact ⟨_, e, (fun _ z => by cases z), (fun _ z => by cases z)⟩
theorem Rl.some (R : Rl K ct P ρ H h) {a : Addr} (m : a ∈ ρ) : ∃ u, H a = Option.some u := by
  obtain ⟨n, hn, e⟩ := List.mem_iff_getElem.mp m
  have hn' : n < h.length := by rw [← R.len]; exact hn
  obtain ⟨u, z, _⟩ := (R.obj n _ a (List.getElem?_eq_getElem hn') (by rw [List.getElem?_eq_getElem hn, e])).some
  exact ⟨u, z⟩
theorem Rl.lx (R : Rl K ct P ρ H h) {a : Addr} (m : Lx P ρ a) : ∃ u, H a = Option.some u := m.elim R.some (R.prot a)
theorem Rl.fresh (R : Rl K ct P ρ H h) {a : Addr} (e : H a = none) : ¬ Lx P ρ a := fun m => by
  obtain ⟨u, z⟩ := R.lx m
  rw [e] at z; cases z
theorem Rl.at (R : Rl K ct P ρ H h) {n : Nat} {o : CO} (e : h[n]? = Option.some o) : ∃ a, ρ[n]? = Option.some a ∧ OR K ct P ρ H a o := by
  have hn : n < ρ.length := by rw [R.len]; exact (List.getElem?_eq_some_iff.mp e).1
  exact ⟨ρ[n], List.getElem?_eq_getElem hn, R.obj n o _ e (List.getElem?_eq_getElem hn)⟩
theorem OR.up {a : Addr} {o : CO} (m : Up P ρ H P' ρ' H') (e : ∀ u, H a = Option.some u → H' a = Option.some u) (x : OR K ct P ρ H a o) : OR K ct P' ρ' H' a o := by
  cases o with
  | lst xs => obtain ⟨vs, z, r⟩ := x; exact ⟨vs, e _ z, r.up m⟩
  | dct xs => obtain ⟨vs, z, k, r⟩ := x; exact ⟨vs, e _ z, k, r.up m⟩
  | dtt xs => obtain ⟨vs, z, k, r⟩ := x; exact ⟨vs, e _ z, k, r.up m⟩
  | ins c xs => obtain ⟨dx, vs, z, k, r⟩ := x; exact ⟨dx, vs, e _ z, k, r.up m⟩
  | tbl q =>
    obtain ⟨a1, q1, a2, ps, z, k, r⟩ := x
    refine ⟨a1, q1, a2, ps, e _ z, k, fun pos cv hc => ?_⟩
    obtain ⟨c, c1, c2⟩ := r pos cv hc
    exact ⟨c, c1, m.ext _ _ c2⟩
theorem Ex.refl (R : Rl K ct P ρ H h) : Ex K ct P ρ H ρ H h := ⟨R, Up.refl, fun _ _ e _ => e⟩
theorem Ex.notin (a : Ex K ct P ρ H ρ' H' h') : ∀ b o, H b = Option.some o → b ∉ ρ → b ∉ ρ' := fun b o e n z => by
  by_cases q : P b
  · exact a.rl.apart b q z
  · exact (a.up.later b o e (fun l => l.elim n q)).2 (.inl z)
theorem Ex.trans (a : Ex K ct P ρ H ρ' H' h') (b : Ex K ct P ρ' H' ρ2 H2 h2) : Ex K ct P ρ H ρ2 H2 h2 := ⟨b.rl, a.up.trans b.up, fun c o e n => b.kp c o (a.kp c o e n) (a.notin c o e n)⟩
theorem Ex.none (a : Ex K ct P ρ H ρ' H' h') {p : Addr} (e : H' p = Option.none) : H p = Option.none := by
  cases z : H p with
  | none => rfl
  | some o =>
    by_cases m : p ∈ ρ
    · obtain ⟨n, hn, q⟩ := List.mem_iff_getElem.mp m
      have := a.up.pre n p (by rw [List.getElem?_eq_getElem hn, q])
      obtain ⟨u, w⟩ := a.rl.some (List.mem_of_getElem? this)
      rw [e] at w; cases w
    · have := a.kp p o z m
      rw [e] at this; cases this
theorem FR.up (m : Up P ρ H P' ρ' H') (x : FR K P ρ H fr sg) : FR K P' ρ' H' fr sg := ⟨x.1, fun i y e => by
  obtain ⟨v, h1, h2⟩ := x.2 i y e
  exact ⟨v, h1, h2.up m⟩⟩
/-- the heap has grown -/
theorem up_grow (g : ∀ a o, H a = Option.some o → H' a = Option.some o) : Up P ρ H P ρ H' := ⟨fun _ _ e => e, fun a o e n => ⟨g a o e, n⟩, fun a φ e => g a _ e⟩
theorem Rl.grow (R : Rl K ct P ρ H h) (g : ∀ a o, H a = Option.some o → H' a = Option.some o) : Ex K ct P ρ H ρ H' h :=
  ⟨⟨R.len, R.nd, fun n o a e1 e2 => (R.obj n o a e1 e2).up (up_grow g) fun u z => g a u z, fun a p => by obtain ⟨o, e⟩ := R.prot a p; exact ⟨o, g a o e⟩, R.apart⟩, up_grow g, fun a o e _ => g a o e⟩
theorem upd_grow {p : Addr} {o : HO} (h : H p = Option.none) : ∀ a u, H a = Option.some u → upd H p o a = Option.some u := DL.upd_grow h
/-- one more is looked after -/
theorem up_with {p : Addr} (hp : H p = Option.none) (g : ∀ a o, H a = Option.some o → H' a = Option.some o) : Up P ρ H (DL.With P p) ρ H' :=
  ⟨fun _ _ e => e, fun a o e n => ⟨g a o e, fun z => z.elim (fun z => n (.inl z)) fun z => z.elim (fun z => n (.inr z)) fun z => by rw [z, hp] at e; cases e⟩, fun a φ e => g a _ e⟩
theorem Rl.guard (R : Rl K ct P ρ H h) {p : Addr} (hp : H p = Option.none) {o : HO} (hp' : H' p = Option.some o) (g : ∀ a o, H a = Option.some o → H' a = Option.some o) : Rl K ct (DL.With P p) ρ H' h :=
  ⟨R.len, R.nd, fun n o a e1 e2 => (R.obj n o a e1 e2).up (up_with hp g) fun u z => g a u z, fun a q => q.elim (fun q => by obtain ⟨o, e⟩ := R.prot a q; exact ⟨o, g a o e⟩) (fun q => by rw [q]; exact ⟨o, hp'⟩),
    fun a q => q.elim (R.apart a) fun q z => by obtain ⟨u, w⟩ := R.some z; rw [q, hp] at w; cases w⟩
/-- fewer are looked after -/
theorem up_less (s : ∀ a, P' a → P a) : Up P ρ H P' ρ H := ⟨fun _ _ e => e, fun a o e n => ⟨e, fun z => n (z.elim .inl fun z => .inr (s a z))⟩, fun _ _ e => e⟩
theorem Rl.less (R : Rl K ct P ρ H h) (s : ∀ a, P' a → P a) : Rl K ct P' ρ H h :=
  ⟨R.len, R.nd, fun n o a e1 e2 => (R.obj n o a e1 e2).up (up_less s) fun _ z => z, fun a q => R.prot a (s a q), fun a q => R.apart a (s a q)⟩
/-- an object is laid: it stands at p already, and was looked after -/
theorem up_reg {p : Addr} : Up (DL.With P p) ρ H P (ρ ++ [p]) H :=
  ⟨fun n a e => by rw [List.getElem?_append_left (List.getElem?_eq_some_iff.mp e).1]; exact e, fun a o e n => ⟨e, fun z => n (z.elim (fun z => (List.mem_append.mp z).elim .inl fun z => .inr (.inr (List.mem_singleton.mp z))) fun z => .inr (.inl z))⟩, fun _ _ e => e⟩
theorem Rl.reg (R : Rl K ct (DL.With P p) ρ H h) {o : CO} (np : ¬ P p) (x : OR K ct (DL.With P p) ρ H p o) : Rl K ct P (ρ ++ [p]) H (h ++ [o]) := by
  refine ⟨by simp [R.len], ?_, fun n u a e1 e2 => ?_, fun a q => R.prot a (.inl q), fun a q z => ?_⟩
  · rw [List.nodup_append]
    exact ⟨R.nd, by simp, fun a ha b hb => by rw [List.mem_singleton.mp hb]; exact fun z => R.apart p (.inr rfl) (by rw [← z]; exact ha)⟩
  · by_cases hn : n < h.length
    · rw [List.getElem?_append_left hn] at e1
      rw [List.getElem?_append_left (by rw [R.len]; exact hn)] at e2
      exact (R.obj n u a e1 e2).up up_reg fun _ z => z
    · rw [List.getElem?_append_right (by omega)] at e1
      rw [List.getElem?_append_right (by rw [R.len]; omega)] at e2
      have hz : n - h.length = 0 := by
        have := (List.getElem?_eq_some_iff.mp e1).1
        simp at this; omega
      rw [hz] at e1
      rw [R.len, hz] at e2
      simp at e1 e2
      subst e1; subst e2
      exact x.up up_reg fun _ z => z
  · rcases List.mem_append.mp z with z | z
    · exact R.apart a (.inl q) z
    · exact np (by rw [← List.mem_singleton.mp z]; exact q)
/-- an object is changed -/
theorem Rl.write (R : Rl K ct P ρ H h) {n : Nat} {a : Addr} {o : CO} {u : HO} (ha : ρ[n]? = Option.some a) (hn : n < h.length) (x : (Up P ρ H P ρ (upd H a u)) → OR K ct P ρ (upd H a u) a o) : Ex K ct P ρ H ρ (upd H a u) (h.set n o) := by
  have nx : ∀ φ, H a ≠ Option.some (.ext φ) := fun φ z => by
    obtain ⟨w, w1, _, w2⟩ := (R.obj n _ a (List.getElem?_eq_getElem hn) ha).some
    rw [w1] at z
    exact w2 φ (Option.some.inj z)
  have m : Up P ρ H P ρ (upd H a u) := ⟨fun _ _ e => e, fun b w e nb => ⟨by rw [upd_ne (fun z => nb (.inl (by rw [z]; exact List.mem_of_getElem? ha)))]; exact e, nb⟩, fun b φ e => by rw [upd_ne (fun z => nx φ (by rw [← z]; exact e))]; exact e⟩
  refine ⟨⟨by rw [List.length_set]; exact R.len, R.nd, fun k w b e1 e2 => ?_, fun b q => ?_, R.apart⟩, m, fun b w e nb => by rw [upd_ne (fun z => nb (by rw [z]; exact List.mem_of_getElem? ha))]; exact e⟩
  · by_cases hk : n = k
    · subst hk
      rw [List.getElem?_set_self hn] at e1
      rw [ha] at e2
      cases e1; cases e2
      exact x m
    · rw [List.getElem?_set_ne hk] at e1
      have hb : b ≠ a := fun z => hk (by
        subst z
        exact (List.getElem?_inj (List.getElem?_eq_some_iff.mp ha).1 R.nd).mp (ha.trans e2.symm))
      exact (R.obj k w b e1 e2).up m fun v z => by rw [upd_ne hb]; exact z
  · have hb : b ≠ a := fun z => R.apart b q (by rw [z]; exact List.mem_of_getElem? ha)
    obtain ⟨w, e⟩ := R.prot b q
    exact ⟨w, by rw [upd_ne hb]; exact e⟩
end
end GH
namespace GH
open PySem PySem.Spec L2
open DL (UE UT UA US USs UG UI Rep RepL Bor Sim Ext Later Lv With opB opB_ok caB caB_ok ixB ixB_ok)
abbrev ME := Fr → Hh → Option (CV × Hh)
abbrev MT := Fr → Hh → Option (Bool × Hh)
abbrev ML := Fr → Hh → Option (List CV × Hh)
section
variable (X : Cx) (ct : CT)
def OkE (e : Expr) (m : ME) : Prop := ∀ (P : Addr → Prop) (ρ : List Addr) (sg : St) (H : Hp) (fr : Fr) (h : Hh) (Q : VK) (x : CV) (h' : Hh), Rl X.K ct P ρ H h → FR X.K P ρ H fr sg → m fr h = some (x, h') →
  (∀ v ρ' H', Ex X.K ct P ρ H ρ' H' h' → VR X.K P ρ' H' x v → Q v H') → UE X e sg H Q
def OkT (e : Expr) (m : MT) : Prop := ∀ (P : Addr → Prop) (ρ : List Addr) (sg : St) (H : Hp) (fr : Fr) (h : Hh) (Q : Bool → Hp → Prop) (b : Bool) (h' : Hh), Rl X.K ct P ρ H h → FR X.K P ρ H fr sg → m fr h = some (b, h') →
  (∀ ρ' H', Ex X.K ct P ρ H ρ' H' h' → Q b H') → UT X e sg H Q
def OkW (e : Expr) (m : MT) : Prop := ∀ (P : Addr → Prop) (ρ : List Addr) (sg : St) (H : Hp) (fr : Fr) (h : Hh) (Q : Bool → Hp → Prop) (b : Bool) (h' : Hh), Rl X.K ct P ρ H h → FR X.K P ρ H fr sg → m fr h = some (b, h') →
  (∀ ρ' H', Ex X.K ct P ρ H ρ' H' h' → Q b H') → DL.UW X e sg H Q
def OkA (es : List Expr) (m : ML) : Prop := ∀ (P : Addr → Prop) (ρ : List Addr) (sg : St) (H : Hp) (fr : Fr) (h : Hh) (Q : List V → Hp → Prop) (xs : List CV) (h' : Hh), Rl X.K ct P ρ H h → FR X.K P ρ H fr sg → m fr h = some (xs, h') →
  (∀ vs ρ' H', Ex X.K ct P ρ H ρ' H' h' → VRL X.K P ρ' H' xs vs → Q vs H') → UA X es sg H Q
end
/-- a new list that nobody holds -/
structure NewG (K : PySem.W.Frag) (ct : CT) (P : Addr → Prop) (ρ : List Addr) (H : Hp) (ρ' : List Addr) (H' : Hp) (h' : Hh) (p : Addr) (xs : List CV) : Prop where
  rl : Rl K ct (With P p) ρ' H' h'
  up : Up P ρ H (With P p) ρ' H'
  kp : ∀ a o, H a = some o → a ∉ ρ → H' a = some o
  new : H p = none
  here : ∃ vs, H' p = some (.lst vs) ∧ VRL K (With P p) ρ' H' xs vs
def OkNT (K : PySem.W.Frag) (ct : CT) (T : TE) (m : ML) : Prop := ∀ (P : Addr → Prop) (ρ : List Addr) (sg : St) (H : Hp) (fr : Fr) (h : Hh) (Q : VK) (xs : List CV) (h' : Hh), Rl K ct P ρ H h → FR K P ρ H fr sg → m fr h = some (xs, h') →
  (∀ p ρ' H', NewG K ct P ρ H ρ' H' h' p xs → Q (.ref p) H') → T sg H Q
abbrev OkN (X : Cx) (ct : CT) (e : Expr) (m : ML) : Prop := OkNT X.K ct (UE X e) m
def OkET (K : PySem.W.Frag) (ct : CT) (T : TE) (m : ME) : Prop := ∀ (P : Addr → Prop) (ρ : List Addr) (sg : St) (H : Hp) (fr : Fr) (h : Hh) (Q : VK) (x : CV) (h' : Hh), Rl K ct P ρ H h → FR K P ρ H fr sg → m fr h = some (x, h') →
  (∀ v ρ' H', Ex K ct P ρ H ρ' H' h' → VR K P ρ' H' x v → Q v H') → T sg H Q
section
variable {K : PySem.W.Frag} {ct : CT} {P : Addr → Prop} {ρ ρ' : List Addr} {H H' : Hp} {h h' : Hh} {sg : St} {p : Addr} {xs : List CV}
theorem NewG.np (N : NewG K ct P ρ H ρ' H' h' p xs) (R : Rl K ct P ρ H h) : ¬ P p := fun z => by
  obtain ⟨o, e⟩ := R.prot p z
  rw [N.new] at e; cases e
theorem up_wless {P' : Addr → Prop} (s : ∀ a, P a → P' a) (m : Up P ρ H P' ρ' H') : Up P ρ H P ρ' H' := ⟨m.pre, fun a o e n => ⟨(m.later a o e n).1, fun z => (m.later a o e n).2 (z.elim .inl fun z => .inr (s a z))⟩, m.ext⟩
/-- it becomes data -/
theorem NewG.ex (N : NewG K ct P ρ H ρ' H' h' p xs) : Ex K ct P ρ H ρ' H' h' := ⟨N.rl.less fun _ z => .inl z, up_wless (fun _ z => .inl z) N.up, N.kp⟩
theorem NewG.rep (N : NewG K ct P ρ H ρ' H' h' p xs) (R : Rl K ct P ρ H h) {ds : List D} (e : dats xs = some ds) : VR K P ρ' H' (.d (.list ds)) (.ref p) := by
  obtain ⟨vs, e1, r⟩ := N.here
  rw [dats_eq e] at r
  exact .d (.lst e1 (fun z => z.elim (N.rl.apart p (.inr rfl)) (N.np R)) (r.rep.mono fun a o q n => ⟨q, fun z => n (z.elim .inl fun z => .inr (.inl z))⟩))
/-- it becomes an object -/
theorem NewG.reg (N : NewG K ct P ρ H ρ' H' h' p xs) (R : Rl K ct P ρ H h) : Ex K ct P ρ H (ρ' ++ [p]) H' (h' ++ [.lst xs]) := by
  obtain ⟨vs, e1, r⟩ := N.here
  exact ⟨N.rl.reg (N.np R) ⟨vs, e1, r⟩, N.up.trans up_reg, N.kp⟩
theorem NewG.self (N : NewG K ct P ρ H ρ' H' h' p xs) : VR K P (ρ' ++ [p]) H' (.ref h'.length) (.ref p) := .ref (by rw [← N.rl.len]; simp)
end
/-- as data; as an object -/
def gDat (m : ML) : ME := fun fr h => match m fr h with
  | some (xs, h') => match dats xs with | some ds => some (.d (.list ds), h') | none => none
  | none => none
def gNew (m : ML) : ME := fun fr h => match m fr h with
  | some (xs, h') => some (.ref h'.length, h' ++ [.lst xs])
  | none => none
section
variable {K : PySem.W.Frag} {ct : CT} {T : TE} {m : ML}
theorem OkNT.dat (hm : OkNT K ct T m) : OkET K ct T (gDat m) := by
  intro P ρ sg H fr h Q x h' R F e hq
  unfold gDat at e
  split at e
  · rename_i xs h1 e1
    split at e
    · rename_i ds e2
      cases e
      exact hm P ρ sg H fr h Q xs _ R F e1 fun p ρ' H' N => hq _ ρ' H' N.ex (N.rep R e2)
    · cases e
  · cases e
theorem OkNT.obj (hm : OkNT K ct T m) : OkET K ct T (gNew m) := by
  intro P ρ sg H fr h Q x h' R F e hq
  unfold gNew at e
  split at e
  · rename_i xs h1 e1
    cases e
    exact hm P ρ sg H fr h Q xs _ R F e1 fun p ρ' H' N => hq _ _ H' (N.reg R) N.self
  · cases e
end
section
variable {X : Cx} {ct : CT} {e a b c : Expr} {pos : Pos}
theorem OkN.dat {m : ML} (hm : OkN X ct e m) : OkE X ct e (gDat m) := OkNT.dat hm
theorem OkN.obj {m : ML} (hm : OkN X ct e m) : OkE X ct e (gNew m) := OkNT.obj hm
def bare (sg : St) : DL.Env := sg.map fun _ => none
theorem bare_no {sg : St} {i : Nat} {y : DL.Sl} : (bare sg)[i]? ≠ some (some y) := by
  unfold bare
  rw [List.getElem?_map]
  cases sg[i]? <;> simp
theorem bare_lv {P : Addr → Prop} {sg : St} {a : Addr} : Lv P sg (bare sg) a ↔ P a := ⟨fun z => z.elim id fun ⟨i, xs, h1, _⟩ => absurd h1 bare_no, .inl⟩
section
variable {K : PySem.W.Frag} {P : Addr → Prop} {ρ : List Addr} {H H' : Hp} {h : Hh} {sg : St}
theorem Rl.sim (R : Rl K ct P ρ H h) : Sim K (Lx P ρ) sg H (bare sg) :=
  ⟨by simp [bare], fun i x z => absurd z bare_no, fun i x z => absurd z bare_no, fun i x z => absurd z bare_no, fun a z => R.lx z, fun i j xs ys a z => absurd z bare_no, fun a ⟨i, xs, z, _⟩ => absurd z bare_no⟩
theorem rep_in {v : V} {x : D} (r : Rep K (Lx P ρ) H v x) : Rep K (Lv (Lx P ρ) sg (bare sg)) H v x := r.mono fun a o e n => ⟨e, fun z => n (bare_lv.mp z)⟩
theorem repL_in {v : List V} {x : List D} (r : RepL K (Lx P ρ) H v x) : RepL K (Lv (Lx P ρ) sg (bare sg)) H v x := r.mono fun a o e n => ⟨e, fun z => n (bare_lv.mp z)⟩
theorem rep_out {r' : DL.Env} {v : V} {x : D} (r : Rep K (Lv (Lx P ρ) sg r') H v x) : VR K P ρ H (.d x) v := .d (r.mono fun a o e n => ⟨e, fun z => n (.inl z)⟩)
theorem ext_out {r' : DL.Env} (R : Rl K ct P ρ H h) (E : Ext K (Lx P ρ) sg (bare sg) H r' H') : Ex K ct P ρ H ρ H' h := R.grow fun a o e => E.keep a o e fun ⟨i, xs, z, _⟩ => absurd z bare_no
end
/-- what is read of a value: data, or a list of data -/
def vw (h : Hh) : CV → Option D
  | .d x => some x
  | .ref n => match h[n]? with
    | some (.lst xs) => match dats xs with | some ds => some (.list ds) | none => none
    | _ => none
  | _ => none
def vws (h : Hh) : List CV → Option (List D)
  | [] => some []
  | x :: xs => match vw h x, vws h xs with | some d, some ds => some (d :: ds) | _, _ => none
theorem bor_of {s : Bool} {K : PySem.W.Frag} {P : Addr → Prop} {ρ : List Addr} {H : Hp} {h : Hh} {sg : St} {x : CV} {v : V} {y : D} (R : Rl K ct P ρ H h) (r : VR K P ρ H x v) (ev : vw h x = some y) : Bor s K (Lv (Lx P ρ) sg (bare sg)) H v y := by
  cases r with
  | d r => cases ev; exact .rep (rep_in r)
  | @ref n a hn =>
    unfold vw at ev
    simp only at ev
    split at ev
    · rename_i xs e1
      split at ev
      · rename_i ds e2
        cases ev
        obtain ⟨b, hb, vs, e3, r3⟩ := R.at e1
        rw [hn] at hb; cases hb
        rw [dats_eq e2] at r3
        exact .own e3 (repL_in r3.rep)
      · cases ev
    · cases ev
  | tup _ _ _ => cases ev
  | scr _ => cases ev
theorem borL_of {s : Bool} {K : PySem.W.Frag} {P : Addr → Prop} {ρ : List Addr} {H : Hp} {h : Hh} {sg : St} (R : Rl K ct P ρ H h) : ∀ {xs : List CV} {vs : List V} {ds : List D}, VRL K P ρ H xs vs → vws h xs = some ds → DL.BorL s K (Lv (Lx P ρ) sg (bare sg)) H vs ds
  | _, _, ds, .nil, ev => by cases ev; exact .nil
  | x :: xs, _, ds, .cons r t, ev => by
    unfold vws at ev
    split at ev
    · rename_i d ds' e1 e2
      cases ev
      exact .cons (bor_of R r e1) (borL_of R t e2)
    · cases ev
def j9 (i : Nat) : ME := fun fr h => match fr[i]? with | some (some x) => some (x, h) | _ => none
theorem okE_var {i : Nat} {x : Str} (hN : X.N[i]? = some x) (hv : Vis X.env.scope x) (hd : (x == ("__debug__" : Str)) = false) (hcd : (x == ("__classdict__" : Str)) = false) : OkE X ct (.Name x pos) (j9 i) := by
  intro P ρ sg H fr h Q y h' R F hm hq
  unfold j9 at hm
  split at hm
  · rename_i z e1
    cases hm
    obtain ⟨v, h1, h2⟩ := F.2 i _ e1
    exact UE.of (pe_var hN hv hd hcd) ⟨v, h1, hq v ρ H (Ex.refl R) h2⟩
  · cases hm
def pj : Option CV → Option DL.Sl
  | some (.d x) => some (.d x)
  | _ => none
def proj (fr : Fr) : DL.Env := fr.map pj
theorem proj_get {fr : Fr} {i : Nat} {y : DL.Sl} (e : (proj fr)[i]? = some (some y)) : ∃ x, y = .d x ∧ fr[i]? = some (some (.d x)) := by
  unfold proj at e
  rw [List.getElem?_map] at e
  cases z : fr[i]? with
  | none => rw [z] at e; cases e
  | some o =>
    rw [z] at e
    cases o with
    | none => cases e
    | some c =>
      cases c with
      | d x => cases e; exact ⟨x, rfl, rfl⟩
      | ref n => cases e
      | tup xs => cases e
      | scr ns => cases e
theorem proj_sim {K : PySem.W.Frag} {P : Addr → Prop} {ρ : List Addr} {H : Hp} {h : Hh} {sg : St} {fr : Fr} (R : Rl K ct P ρ H h) (F : FR K P ρ H fr sg) : Sim K (Lx P ρ) sg H (proj fr) ∧ ∀ a, ¬ DL.OwnA sg (proj fr) a := by
  have no : ∀ a, ¬ DL.OwnA sg (proj fr) a := fun a ⟨i, xs, z, _⟩ => by obtain ⟨x, e, _⟩ := proj_get z; cases e
  refine ⟨⟨by unfold proj; rw [List.length_map]; exact F.1, fun i x z => ?_, fun i x z => ?_, fun i x z => ?_, fun a z => R.lx z, fun i j xs ys a z => ?_, fun a z => absurd z (no a)⟩, no⟩
  · obtain ⟨y, e, e2⟩ := proj_get z
    cases e
    obtain ⟨v, h1, h2⟩ := F.2 i _ e2
    cases h2 with
    | d r => exact ⟨v, h1, r.mono fun a o e n => ⟨e, fun z => n (z.elim id fun z => absurd z (no a))⟩⟩
  · obtain ⟨y, e, _⟩ := proj_get z; cases e
  · obtain ⟨y, e, _⟩ := proj_get z; cases e
  · obtain ⟨y, e, _⟩ := proj_get z; cases e
theorem pext_out {K : PySem.W.Frag} {P : Addr → Prop} {ρ : List Addr} {H H' : Hp} {h : Hh} {sg : St} {fr : Fr} {r' : DL.Env} (R : Rl K ct P ρ H h) (F : FR K P ρ H fr sg) (E : Ext K (Lx P ρ) sg (proj fr) H r' H') : Ex K ct P ρ H ρ H' h := R.grow fun a o e => E.keep a o e ((proj_sim R F).2 a)
/-- an expression over data -/
def gL (m : DL.SE) : ME := fun fr h => match m (proj fr) with | some (x, _) => some (.d x, h) | none => none
theorem x7 {m : DL.SE} (hd : DL.OkE X e m) : OkE X ct e (gL m) := by
  intro P ρ sg H fr h Q y h' R F hm hq
  unfold gL at hm
  split at hm
  · rename_i x r1 e1
    cases hm
    exact hd (Lx P ρ) sg H (proj fr) Q x r1 (proj_sim R F).1 e1 fun v H' E q => hq v ρ H' (pext_out R F E) (rep_out q)
  · cases hm
def j7 : ML := fun _ h => some ([], h)
def j6 (m : ME) (n : ML) : ML := fun fr h => match m fr h with
  | some (x, h1) => match n fr h1 with | some (xs, h2) => some (x :: xs, h2) | none => none
  | none => none
theorem x5 : OkA X ct [] j7 := by
  intro P ρ sg H fr h Q xs h' R F hm hq
  cases hm
  exact UA.of pa_nil (hq [] ρ H (Ex.refl R) .nil)
theorem x3 {es : List Expr} {m : ME} {n : ML} (h1 : OkE X ct e m) (hn : OkA X ct es n) (hs : starEach (e :: es) X.env = (false, eval e X.env) :: starEach es X.env) : OkA X ct (e :: es) (j6 m n) := by
  intro P ρ sg H fr h Q xs h' R F hm hq
  unfold j6 at hm
  split at hm
  · rename_i x h2 e1
    split at hm
    · rename_i ys h3 e2
      cases hm
      refine UA.of (pa_cons UE.pe UA.pa hs) ?_
      refine h1 P ρ sg H fr h _ x h2 R F e1 fun v ρ1 H1 E1 q1 => ?_
      refine hn P ρ1 sg H1 fr h2 _ ys _ E1.rl (F.up E1.up) e2 fun vs ρ2 H2 E2 q2 => ?_
      exact hq (v :: vs) ρ2 H2 (E1.trans E2) (.cons (q1.up E2.up) q2)
    · cases hm
  · cases hm
def gTup (n : ML) : ME := fun fr h => match n fr h with
  | some (xs, h') => if xs.length ≤ sizeLine then match dats xs with | some ds => some (.d (.tuple ds), h') | none => some (.tup xs, h') else none
  | none => none
theorem x8 {es : List Expr} {n : ML} {k : Nat} (hn : OkA X ct es n) : OkE X ct (.Tuple es k pos) (gTup n) := by
  intro P ρ sg H fr h Q x h' R F hm hq
  unfold gTup at hm
  split at hm
  · rename_i xs h1 e1
    split at hm
    · rename_i hz
      refine UE.of (pe_tup UA.pa) ?_
      refine hn P ρ sg H fr h _ xs h1 R F e1 fun vs ρ1 H1 E1 q1 => ⟨by rw [q1.length]; exact hz, fun p hp => ?_⟩
      have G := E1.rl.grow (upd_grow (o := .tup vs) hp)
      split at hm
      · rename_i ds e2
        cases hm
        rw [dats_eq e2] at q1
        exact hq _ ρ1 _ (E1.trans G) (.d (.tup upd_same (E1.rl.fresh hp) (q1.rep.mono G.up.later)))
      · cases hm
        exact hq _ ρ1 _ (E1.trans G) (.tup upd_same (E1.rl.fresh hp) (q1.up G.up))
    · cases hm
  · cases hm
/-- a new list laid at p -/
theorem newG {K : PySem.W.Frag} {P : Addr → Prop} {ρ ρ' : List Addr} {H H' : Hp} {h' : Hh} {xs : List CV} {vs : List V} {p : Addr} (E : Ex K ct P ρ H ρ' H' h') (q : VRL K P ρ' H' xs vs) (hp : H' p = none) : NewG K ct P ρ H ρ' (upd H' p (.lst vs)) h' p xs :=
  ⟨E.rl.guard hp upd_same (upd_grow hp), E.up.trans (up_with hp (upd_grow hp)), fun a o e n => upd_grow hp a o (E.kp a o e n), E.none hp, vs, upd_same, q.up (up_with hp (upd_grow hp))⟩
def nLst (n : ML) : ML := fun fr h => match n fr h with | some (xs, h') => if xs.length ≤ sizeLine then some (xs, h') else none | none => none
theorem v8 {es : List Expr} {n : ML} (hn : OkA X ct es n) : OkN X ct (.List es pos) (nLst n) := by
  intro P ρ sg H fr h Q xs h' R F hm hq
  unfold nLst at hm
  split at hm
  · rename_i ys h1 e1
    split at hm
    · rename_i hz
      cases hm
      refine UE.of (pe_lst UA.pa) ?_
      exact hn P ρ sg H fr h _ xs _ R F e1 fun vs ρ1 H1 E1 q1 => ⟨by rw [q1.length]; exact hz, fun p hp => hq p ρ1 _ (newG E1 q1 hp)⟩
    · cases hm
  · cases hm
def gTwo (ma mb : ME) (fr : Fr) (h : Hh) : Option (D × D × Hh) := match ma fr h with
  | some (x, h1) => match mb fr h1 with
    | some (y, h2) => match vw h2 x, vw h2 y with
      | some x', some y' => some (x', y', h2)
      | _, _ => none
    | none => none
  | none => none
theorem two_ok {s : Bool} {ma mb : ME} (ha : OkE X ct a ma) (hb : OkE X ct b mb) {P : Addr → Prop} {ρ : List Addr} {sg : St} {H : Hp} {fr : Fr} {h h' : Hh} {x y : D} {W : V → V → Hp → Prop} (R : Rl X.K ct P ρ H h) (F : FR X.K P ρ H fr sg) (hm : gTwo ma mb fr h = some (x, y, h'))
    (hq : ∀ v u ρ' H', Ex X.K ct P ρ H ρ' H' h' → Bor s X.K (Lv (Lx P ρ') sg (bare sg)) H' v x → Bor s X.K (Lv (Lx P ρ') sg (bare sg)) H' u y → W v u H') : UE X a sg H fun v H1 => UE X b sg H1 fun u H2 => W v u H2 := by
  unfold gTwo at hm
  split at hm
  · rename_i x1 h1 e1
    split at hm
    · rename_i y1 h2 e2
      split at hm
      · rename_i x2 y2 e3 e4
        cases hm
        refine ha P ρ sg H fr h _ x1 h1 R F e1 fun v ρ1 H1 E1 q1 => ?_
        refine hb P ρ1 sg H1 fr h1 _ y1 _ E1.rl (F.up E1.up) e2 fun u ρ2 H2 E2 q2 => ?_
        exact hq v u ρ2 H2 (E1.trans E2) (bor_of E2.rl (q1.up E2.up) e3) (bor_of E2.rl q2 e4)
      · cases hm
    · cases hm
  · cases hm
def gBin (ma mb : ME) (g : D → D → Option D) : ME := fun fr h => match gTwo ma mb fr h with
  | some (x, y, h') => match g x y with | some z => some (.d z, h') | none => none
  | none => none
theorem v7 {s : Bool} {op : Operator} {ma mb : ME} {g : D → D → Option D} (ho : DL.OpS s X (binaryOp op) g) (ha : OkE X ct a ma) (hb : OkE X ct b mb) : OkE X ct (.BinOp a op b pos) (gBin ma mb g) := by
  intro P ρ sg H fr h Q x h' R F hm hq
  unfold gBin at hm
  split at hm
  · rename_i y z h1 e1
    split at hm
    · rename_i w e2
      cases hm
      refine UE.of (pe_op opB_ok UE.pe UE.pe) (two_ok (s := s) ha hb R F e1 fun v u ρ2 H2 E bx bq => ?_)
      exact ho (Lx P ρ2) sg H2 (bare sg) v u y z _ Q E.rl.sim bx bq e2 fun w H' E' q => hq w ρ2 H' (E.trans (ext_out E.rl E')) (rep_out q)
    · cases hm
  · cases hm
theorem okE_cmp {s : Bool} {op : CmpOp} {ma mb : ME} {g : D → D → Option D} (ho : DL.OpS s X (compareOp op) g) (ha : OkE X ct a ma) (hb : OkE X ct b mb) (hm' : behindInMarks op b = false) : OkE X ct (.Compare a [op] [b] pos) (gBin ma mb g) := by
  intro P ρ sg H fr h Q x h' R F hm hq
  unfold gBin at hm
  split at hm
  · rename_i y z h1 e1
    split at hm
    · rename_i w e2
      cases hm
      refine UE.of (pe_cmpR opB_ok UE.pe UE.pe hm') (two_ok (s := s) ha hb R F e1 fun v u ρ2 H2 E bx bq => ?_)
      exact ho (Lx P ρ2) sg H2 (bare sg) v u y z _ Q E.rl.sim bx bq e2 fun w H' E' q => hq w ρ2 H' (E.trans (ext_out E.rl E')) (rep_out q)
    · cases hm
  · cases hm
def tBin (ma mb : ME) (g : D → D → Option D) : MT := fun fr h => match gBin ma mb g fr h with | some (.d (.bool b), h') => some (b, h') | _ => none
theorem j5 {s : Bool} {op : CmpOp} {ma mb : ME} {g : D → D → Option D} (ho : DL.OpS s X (compareOp op) g) (ha : OkE X ct a ma) (hb : OkE X ct b mb) (hm' : behindInMarks op b = false) : OkT X ct (.Compare a [op] [b] pos) (tBin ma mb g) := by
  intro P ρ sg H fr h Q x h' R F hm hq
  unfold tBin gBin at hm
  split at hm
  · rename_i c h1 e0
    cases hm
    split at e0
    · rename_i y z h2 e1
      split at e0
      · rename_i w e2
        cases e0
        refine UT.of (pt_cmpR opB_ok UE.pe UE.pe hm') (two_ok (s := s) ha hb R F e1 fun v u ρ2 H2 E bx bq => ?_)
        refine ho (Lx P ρ2) sg H2 (bare sg) v u y z _ _ E.rl.sim bx bq e2 fun w H' E' q => ?_
        cases q
        exact ⟨_, rfl, hq ρ2 H' (E.trans (ext_out E.rl E'))⟩
      · cases e0
    · cases e0
  · cases hm
def gTru (m : ME) : MT := fun fr h => match m fr h with
  | some (x, h') => match vw h' x with
    | some d => match DL.truth d with | some b => some (b, h') | none => none
    | none => none
  | none => none
theorem v5 {m : ME} (h1 : OkE X ct a m) (he : ∀ whole, isTrue a X.env whole = (do let v ← whole; standAt a.pos; holding [v] (truthy v))) : OkT X ct a (gTru m) := by
  intro P ρ sg H fr h Q x h' R F hm hq
  unfold gTru at hm
  split at hm
  · rename_i y h2 e1
    split at hm
    · rename_i d e2
      split at hm
      · rename_i z e3
        cases hm
        exact UT.of (pt_truth UE.pe he) (h1 P ρ sg H fr h _ y _ R F e1 fun v ρ1 H1 E1 q1 => ⟨_, DL.truth_ok (s := true) (bor_of (sg := sg) E1.rl q1 e2) e3, hq ρ1 H1 E1⟩)
      · cases hm
    · cases hm
  · cases hm
def gNot (m : MT) : MT := fun fr h => match m fr h with | some (b, h') => some (!b, h') | none => none
theorem okT_not {m : MT} (h1 : OkT X ct a m) : OkT X ct (.UnaryOp .Not a pos) (gNot m) := by
  intro P ρ sg H fr h Q x h' R F hm hq
  unfold gNot at hm
  split at hm
  · rename_i y h2 e1
    cases hm
    exact UT.of (pt_not UT.pt) (h1 P ρ sg H fr h _ y _ R F e1 fun ρ1 H1 E1 => hq ρ1 H1 E1)
  · cases hm
def gNotV (m : ME) : ME := fun fr h => match m fr h with | some (.d (.bool b), h') => some (.d (.bool (!b)), h') | _ => none
theorem okE_not {m : ME} (h1 : OkE X ct a m) : OkE X ct (.UnaryOp .Not a pos) (gNotV m) := by
  intro P ρ sg H fr h Q x h' R F hm hq
  unfold gNotV at hm
  split at hm
  · rename_i y h2 e1
    cases hm
    refine UE.of (pe_not UE.pe) (h1 P ρ sg H fr h _ _ _ R F e1 fun v ρ1 H1 E1 q1 => ?_)
    cases q1 with | d q => cases q; exact ⟨_, rfl, hq _ ρ1 H1 E1 (.d (.bl _))⟩
  · cases hm
def gAnd (m n : ME) : ME := fun fr h => match m fr h with | some (.d (.bool true), h') => n fr h' | some (.d (.bool false), h') => some (.d (.bool false), h') | _ => none
theorem okE_one {m : ME} {op : BoolOp} (h1 : OkE X ct a m) : OkE X ct (.BoolOp op [a] pos) m := fun P ρ sg H fr h Q x h' R F hm hq => UE.of (pe_one UE.pe) (h1 P ρ sg H fr h Q x h' R F hm hq)
theorem okE_and {rest : List Expr} {m n : ME} (h1 : OkE X ct a m) (hn : OkE X ct (.BoolOp .And (b :: rest) pos) n) : OkE X ct (.BoolOp .And (a :: b :: rest) pos) (gAnd m n) := by
  intro P ρ sg H fr h Q x h' R F hm hq
  unfold gAnd at hm
  split at hm
  · rename_i h2 e1
    refine UE.of (pe_and UE.pe UE.pe) (h1 P ρ sg H fr h _ _ _ R F e1 fun v ρ1 H1 E1 q1 => ?_)
    cases q1 with | d q =>
      cases q
      refine ⟨true, rfl, ?_⟩
      rw [if_pos rfl]
      exact hn P ρ1 sg H1 fr h2 Q x h' E1.rl (F.up E1.up) hm fun w ρ2 H2 E2 q2 => hq w ρ2 H2 (E1.trans E2) q2
  · rename_i h2 e1
    cases hm
    refine UE.of (pe_and UE.pe UE.pe) (h1 P ρ sg H fr h _ _ _ R F e1 fun v ρ1 H1 E1 q1 => ?_)
    cases q1 with | d q =>
      cases q
      refine ⟨false, rfl, ?_⟩
      rw [if_neg Bool.false_ne_true]
      exact hq _ ρ1 H1 E1 (.d (.bl false))
  · cases hm
def tAnd (m n : MT) : MT := fun fr h => match m fr h with | some (true, h') => n fr h' | some (false, h') => some (false, h') | none => none
def tOr (m n : MT) : MT := fun fr h => match m fr h with | some (false, h') => n fr h' | some (true, h') => some (true, h') | none => none
theorem OkW.t {op : BoolOp} {es : List Expr} {m : MT} (h1 : OkW X ct (.BoolOp op es pos) m) : OkT X ct (.BoolOp op es pos) m := fun P ρ sg H fr h Q b h' R F hm hq => fun pins s I => h1 P ρ sg H fr h Q b h' R F hm hq _ pins s I
theorem okW_and1 {m : MT} (h1 : OkT X ct a m) : OkW X ct (.BoolOp .And [a] pos) m := fun P ρ sg H fr h Q b h' R F hm hq => DL.UW.of (pw_and1 UT.pt) (h1 P ρ sg H fr h Q b h' R F hm hq)
theorem okW_or1 {m : MT} (h1 : OkT X ct a m) : OkW X ct (.BoolOp .Or [a] pos) m := fun P ρ sg H fr h Q b h' R F hm hq => DL.UW.of (pw_or1 UT.pt) (h1 P ρ sg H fr h Q b h' R F hm hq)
theorem okW_and {rest : List Expr} {m n : MT} (h1 : OkT X ct a m) (hn : OkW X ct (.BoolOp .And (b :: rest) pos) n) : OkW X ct (.BoolOp .And (a :: b :: rest) pos) (tAnd m n) := by
  intro P ρ sg H fr h Q x h' R F hm hq
  unfold tAnd at hm
  split at hm
  · rename_i h2 e1
    refine DL.UW.of (pw_and UT.pt DL.UW.pw) (h1 P ρ sg H fr h _ _ _ R F e1 fun ρ1 H1 E1 => ?_)
    rw [if_pos rfl]
    exact hn P ρ1 sg H1 fr h2 Q x h' E1.rl (F.up E1.up) hm fun ρ2 H2 E2 => hq ρ2 H2 (E1.trans E2)
  · rename_i h2 e1
    cases hm
    refine DL.UW.of (pw_and UT.pt DL.UW.pw) (h1 P ρ sg H fr h _ _ _ R F e1 fun ρ1 H1 E1 => ?_)
    rw [if_neg Bool.false_ne_true]
    exact hq ρ1 H1 E1
  · cases hm
theorem okW_or {rest : List Expr} {m n : MT} (h1 : OkT X ct a m) (hn : OkW X ct (.BoolOp .Or (b :: rest) pos) n) : OkW X ct (.BoolOp .Or (a :: b :: rest) pos) (tOr m n) := by
  intro P ρ sg H fr h Q x h' R F hm hq
  unfold tOr at hm
  split at hm
  · rename_i h2 e1
    refine DL.UW.of (pw_or UT.pt DL.UW.pw) (h1 P ρ sg H fr h _ _ _ R F e1 fun ρ1 H1 E1 => ?_)
    rw [if_neg Bool.false_ne_true]
    exact hn P ρ1 sg H1 fr h2 Q x h' E1.rl (F.up E1.up) hm fun ρ2 H2 E2 => hq ρ2 H2 (E1.trans E2)
  · rename_i h2 e1
    cases hm
    refine DL.UW.of (pw_or UT.pt DL.UW.pw) (h1 P ρ sg H fr h _ _ _ R F e1 fun ρ1 H1 E1 => ?_)
    rw [if_pos rfl]
    exact hq ρ1 H1 E1
  · cases hm
def gIf (t : MT) (m n : ME) : ME := fun fr h => match t fr h with | some (true, h') => m fr h' | some (false, h') => n fr h' | none => none
theorem okE_if {mc : MT} {m n : ME} (hc : OkT X ct c mc) (h1 : OkE X ct a m) (hn : OkE X ct b n) : OkE X ct (.IfExp c a b pos) (gIf mc m n) := by
  intro P ρ sg H fr h Q x h' R F hm hq
  unfold gIf at hm
  split at hm
  · rename_i h2 e1
    refine UE.of (pe_ifExp UT.pt UE.pe UE.pe) (hc P ρ sg H fr h _ _ _ R F e1 fun ρ1 H1 E1 => ?_)
    rw [if_pos rfl]
    exact h1 P ρ1 sg H1 fr h2 Q x h' E1.rl (F.up E1.up) hm fun w ρ2 H2 E2 q2 => hq w ρ2 H2 (E1.trans E2) q2
  · rename_i h2 e1
    refine UE.of (pe_ifExp UT.pt UE.pe UE.pe) (hc P ρ sg H fr h _ _ _ R F e1 fun ρ1 H1 E1 => ?_)
    rw [if_neg Bool.false_ne_true]
    exact hn P ρ1 sg H1 fr h2 Q x h' E1.rl (F.up E1.up) hm fun w ρ2 H2 E2 q2 => hq w ρ2 H2 (E1.trans E2) q2
  · cases hm
/-- a value that is True or False, as a test -/
def tV (m : ME) : MT := fun fr h => match m fr h with | some (.d (.bool b), h') => some (b, h') | _ => none
end
end GH
namespace GH
open PySem PySem.Spec L2
open DL (UE UT UA US USs UG UI UO Rep RepL Bor Sim Ext Later Lv With opB opB_ok caB caB_ok ixB ixB_ok slB slB_ok cutG NoStar)
section
variable {X : Cx} {ct : CT} {e a b c : Expr} {pos pos' p : Pos} {cn j : Nat} {f : Str}
def keyOf : CV → Option Key
  | .d (.int i) => some (.inl i)
  | .d (.str s) => some (.inr s)
  | _ => none
def valC {κ : Type} [DecidableEq κ] (kvs : List (κ × CV)) (k : κ) : Option CV := (kvs.find? fun kv => decide (kv.1 = k)).map (·.2)
theorem val_rel {K : PySem.W.Frag} {P : Addr → Prop} {ρ : List Addr} {H : Hp} {κ : Type} [DecidableEq κ] {k : κ} : ∀ {kvs : List (κ × CV)} {vs : List (κ × V)}, vs.map (·.1) = kvs.map (·.1) → VRL K P ρ H (kvs.map (·.2)) (vs.map (·.2)) →
    (valC kvs k = none ∧ valV vs k = none) ∨ ∃ x v, valC kvs k = some x ∧ valV vs k = some v ∧ VR K P ρ H x v
  | [], [], _, _ => .inl ⟨rfl, rfl⟩
  | [], _ :: _, e, _ => by simp at e
  | _ :: _, [], e, _ => by simp at e
  | (k1, x) :: kvs, (k2, v) :: vs, e, .cons r t => by
    rw [List.map_cons, List.map_cons, List.cons.injEq] at e
    obtain ⟨e1, e2⟩ := e
    have e1 : k2 = k1 := e1
    subst e1
    unfold valC valV
    rw [List.find?_cons, List.find?_cons]
    by_cases hk : k2 = k
    · simp only [hk, decide_true]
      exact .inr ⟨x, v, rfl, rfl, r⟩
    · simp only [hk, decide_false]
      exact val_rel e2 t
theorem key_v {K : PySem.W.Frag} {P : Addr → Prop} {ρ : List Addr} {H : Hp} {y : CV} {v : V} {k : Key} (r : VR K P ρ H y v) (e : keyOf y = some k) : v = kV k := by
  unfold keyOf at e
  split at e
  · cases e; cases r with | d r => cases r; rfl
  · cases e; cases r with | d r => cases r; rfl
  · cases e
def ixC (h : Hh) (x y : CV) : Option CV := match x with
  | .d dx => match y with | .d dy => (match DL.fIx dx dy with | some z => some (.d z) | none => none) | _ => none
  | .tup xs => match y with | .d (.int i) => atI xs i | _ => none
  | .ref n => match h[n]? with
    | some (.lst xs) => match y with | .d (.int i) => atI xs i | _ => none
    | some (.dct kvs) => match keyOf y with | some k => valC kvs k | none => none
    | _ => none
  | .scr _ => none
def gIx (ma mb : ME) : ME := fun fr h => match ma fr h with
  | some (x, h1) => match mb fr h1 with
    | some (y, h2) => match ixC h2 x y with | some z => some (z, h2) | none => none
    | none => none
  | none => none
theorem VRL.atI {K : PySem.W.Frag} {P : Addr → Prop} {ρ : List Addr} {H : Hp} {xs : List CV} {vs : List V} {i : Int} {x : CV} (r : VRL K P ρ H xs vs) (e : L2.atI xs i = some x) : ∃ v, L2.atI vs i = some v ∧ VR K P ρ H x v := by
  unfold L2.atI at e ⊢
  rw [r.length]
  cases z : ixN xs.length i with
  | none => rw [z] at e; cases e
  | some j => rw [z] at e; exact r.get e
theorem j3 {ma mb : ME} (hu : X.A.units + 1 < cLine) (ha : OkE X ct a ma) (hb : OkE X ct b mb) (hs : NoSl b) (hs' : PlainIx b) : OkE X ct (.Subscript a b pos) (gIx ma mb) := by
  intro P ρ sg H fr h Q x h' R F hm hq
  unfold gIx at hm
  split at hm
  · rename_i x1 h1 e1
    split at hm
    · rename_i y1 h2 e2
      split at hm
      · rename_i z e3
        cases hm
        have run : ∀ {W : V → V → Hp → Prop}, (∀ v u ρ2 H2, Ex X.K ct P ρ H ρ2 H2 h' → VR X.K P ρ2 H2 x1 v → VR X.K P ρ2 H2 y1 u → W v u H2) → UE X a sg H fun v H1 => UE X b sg H1 fun u H2 => W v u H2 := fun {W} w =>
          ha P ρ sg H fr h _ x1 h1 R F e1 fun v ρ1 H1 E1 q1 => hb P ρ1 sg H1 fr h1 _ y1 _ E1.rl (F.up E1.up) e2 fun u ρ2 H2 E2 q2 => w v u ρ2 H2 (E1.trans E2) (q1.up E2.up) q2
        unfold ixC at e3
        split at e3
        · rename_i dx
          split at e3
          · rename_i dy
            split at e3
            · rename_i w e4
              cases e3
              refine UE.of (pe_ix ixB_ok UE.pe UE.pe hs') (run fun v u ρ2 H2 E q1 q2 => ?_)
              exact DL.ixS (Lx P ρ2) sg H2 (bare sg) v u dx dy w Q E.rl.sim (bor_of E.rl q1 rfl) (bor_of E.rl q2 rfl) e4 fun w H' E' q => hq w ρ2 H' (E.trans (ext_out E.rl E')) (rep_out q)
            · cases e3
          · cases e3
        · rename_i xs
          split at e3
          · rename_i i
            refine UE.of (pe_ix ixB_ok UE.pe UE.pe hs') (run fun v u ρ2 H2 E q1 q2 => ?_)
            cases q1 with
            | tup t1 t2 t3 =>
              cases q2 with | d q2 =>
                cases q2
                obtain ⟨w, w1, w2⟩ := t3.atI e3
                exact ⟨_, ix_tup, _, _, i, w, rfl, rfl, SqT.of t1, w1, hq w ρ2 H2 E w2⟩
          · cases e3
        · rename_i n
          split at e3
          · rename_i xs e4
            split at e3
            · rename_i i
              refine UE.of (pe_ix ixB_ok UE.pe UE.pe hs') (run fun v u ρ2 H2 E q1 q2 => ?_)
              cases q1 with
              | ref hn =>
                obtain ⟨b, hb, vs, o1, o2⟩ := E.rl.at e4
                rw [hn] at hb; cases hb
                cases q2 with | d q2 =>
                  cases q2
                  obtain ⟨w, w1, w2⟩ := o2.atI e3
                  exact ⟨_, ix_list, _, vs, i, w, rfl, rfl, SqL.of o1, w1, hq w ρ2 H2 E w2⟩
            · cases e3
          · rename_i kvs e4
            split at e3
            · rename_i k e5
              refine UE.of (pe_dget hu UE.pe UE.pe hs) (run fun v u ρ2 H2 E q1 q2 => ?_)
              cases q1 with
              | ref hn =>
                obtain ⟨b, hb, vs, o1, o2, o3⟩ := E.rl.at e4
                rw [hn] at hb; cases hb
                rcases val_rel (k := k) o2 o3 with ⟨z1, _⟩ | ⟨x', v', z1, z2, z3⟩
                · rw [e3] at z1; cases z1
                · rw [e3] at z1; cases z1
                  refine ⟨_, v', rfl, ?_, hq v' ρ2 H2 E z3⟩
                  rw [key_v q2 e5, ← z2]
                  exact DGet.k o1
            · cases e3
          · cases e3
        · cases e3
      · cases hm
    · cases hm
  · cases hm
def partG : Option ME → Fr → Hh → Option (Option Int × Hh)
  | none, _, h => some (none, h)
  | some m, fr, h => match m fr h with | some (.d (.int i), h') => some (some i, h') | _ => none
def OkP (X : Cx) (ct : CT) (e : Option Expr) (m : Option ME) : Prop := ∀ (P : Addr → Prop) (ρ : List Addr) (sg : St) (H : Hp) (fr : Fr) (h : Hh) (Q : Option Int → Hp → Prop) (o : Option Int) (h' : Hh), Rl X.K ct P ρ H h → FR X.K P ρ H fr sg → partG m fr h = some (o, h') →
  (∀ ρ' H', Ex X.K ct P ρ H ρ' H' h' → Q o H') → UO X e sg H Q
theorem okP_none : OkP X ct none none := by
  intro P ρ sg H fr h Q o h' R F hm hq
  cases hm
  exact UO.of po_none (hq ρ H (Ex.refl R))
theorem okP_some {m : ME} (h1 : OkE X ct e m) : OkP X ct (some e) (some m) := by
  intro P ρ sg H fr h Q o h' R F hm hq
  unfold partG at hm
  simp only at hm
  split at hm
  · rename_i i h2 e1
    cases hm
    refine UO.of (po_some UE.pe) (h1 P ρ sg H fr h _ _ _ R F e1 fun v ρ1 H1 E1 q1 => ?_)
    cases q1 with | d q => cases q; exact ⟨i, rfl, hq ρ1 H1 E1⟩
  · cases hm
def cut3 (ma : ME) (lo hi : Option ME) (fr : Fr) (h : Hh) : Option (CV × Option Int × Option Int × Hh) := match ma fr h with
  | some (x, h1) => match partG lo fr h1 with
    | some (l, h2) => match partG hi fr h2 with
      | some (u, h3) => some (x, l, u, h3)
      | none => none
    | none => none
  | none => none
theorem cut3_ok {ma : ME} {lo hi : Option Expr} {ml mh : Option ME} {p2 : Pos} {P : Addr → Prop} {ρ : List Addr} {sg : St} {H : Hp} {fr : Fr} {h h' : Hh} {x : CV} {l u : Option Int} {Q : VK} (ha : OkE X ct a ma) (hl : OkP X ct lo ml) (hh : OkP X ct hi mh)
    (R : Rl X.K ct P ρ H h) (F : FR X.K P ρ H fr sg) (hm : cut3 ma ml mh fr h = some (x, l, u, h')) (hq : ∀ v ρ' H', Ex X.K ct P ρ H ρ' H' h' → VR X.K P ρ' H' x v → slB X v l u H' Q) : UE X (.Subscript a (.Slice lo hi none p2) pos) sg H Q := by
  unfold cut3 at hm
  split at hm
  · rename_i x1 h1 e1
    split at hm
    · rename_i l1 h2 e2
      split at hm
      · rename_i u1 h3 e3
        cases hm
        refine UE.of (pe_slice slB_ok UE.pe UO.po UO.po) ?_
        refine ha P ρ sg H fr h _ _ _ R F e1 fun v ρ1 H1 E1 q1 => ?_
        refine hl P ρ1 sg H1 fr h1 _ _ _ E1.rl (F.up E1.up) e2 fun ρ2 H2 E2 => ?_
        refine hh P ρ2 sg H2 fr h2 _ _ _ E2.rl ((F.up E1.up).up E2.up) e3 fun ρ3 H3 E3 => ?_
        exact hq v ρ3 H3 ((E1.trans E2).trans E3) ((q1.up E2.up).up E3.up)
      · cases hm
    · cases hm
  · cases hm
/-- of data -/
def gCut (ma : ME) (lo hi : Option ME) : ME := fun fr h => match cut3 ma lo hi fr h with
  | some (x, l, u, h') => match vw h' x with
    | some d => match DL.fCut d l u with | some z => some (.d z, h') | none => none
    | none => none
  | none => none
theorem okE_cut {ma : ME} {lo hi : Option Expr} {ml mh : Option ME} {p2 : Pos} (ha : OkE X ct a ma) (hl : OkP X ct lo ml) (hh : OkP X ct hi mh) : OkE X ct (.Subscript a (.Slice lo hi none p2) pos) (gCut ma ml mh) := by
  intro P ρ sg H fr h Q x h' R F hm hq
  unfold gCut at hm
  split at hm
  · rename_i x1 l u h1 e1
    split at hm
    · rename_i d e2
      split at hm
      · rename_i z e3
        cases hm
        refine cut3_ok ha hl hh R F e1 fun v ρ1 H1 E1 q1 => ?_
        exact DL.slS (P := Lx P ρ1) (sg := sg) (r := bare sg) E1.rl.sim (bor_of E1.rl q1 e2) e3 fun w H' E' q => hq w ρ1 H' (E1.trans (ext_out E1.rl E')) (rep_out q)
      · cases hm
    · cases hm
  · cases hm
/-- of a list: a new list -/
def lstOf (h : Hh) : CV → Option (List CV)
  | .ref n => match h[n]? with | some (.lst xs) => some xs | _ => none
  | _ => none
theorem lst_of {K : PySem.W.Frag} {P : Addr → Prop} {ρ : List Addr} {H : Hp} {h : Hh} {x : CV} {v : V} {xs : List CV} (R : Rl K ct P ρ H h) (r : VR K P ρ H x v) (e : lstOf h x = some xs) : ∃ n p vs, x = .ref n ∧ h[n]? = some (.lst xs) ∧ ρ[n]? = some p ∧ v = .ref p ∧ H p = some (.lst vs) ∧ VRL K P ρ H xs vs := by
  unfold lstOf at e
  split at e
  · rename_i n
    split at e
    · rename_i ys e1
      cases e
      obtain ⟨b, hb, vs, o1, o2⟩ := R.at e1
      cases r with
      | ref hn =>
        rw [hn] at hb; cases hb
        exact ⟨n, _, vs, rfl, e1, hn, rfl, o1, o2⟩
    · cases e
  · cases e
theorem VRL.cut {K : PySem.W.Frag} {P : Addr → Prop} {ρ : List Addr} {H : Hp} {xs : List CV} {vs : List V} (r : VRL K P ρ H xs vs) (lo hi : Option Int) : VRL K P ρ H (cutG xs lo hi) (cutV vs lo hi) := by
  unfold cutV cutG
  rw [r.length]
  exact (r.drop _).take _
def gCall (n : ML) (g : List D → Option D) : ME := fun fr h => match n fr h with
  | some (xs, h') => match vws h' xs with
    | some ds => match g ds with | some z => some (.d z, h') | none => none
    | none => none
  | none => none
variable {x : Str} {es : List Expr}
theorem okE_callB {s : Bool} {n : ML} {g : List D → Option D} {id : String} (hc : DL.CallS s X (.builtin id) g) (hg : Gl X x) (hm' : X.mg x = none) (hv : bootBuiltins x = some (.builtin id)) (ha : OkA X ct (e :: es) n) (hn : x ≠ "__name__") (hdb : (x == ("__debug__" : Str)) = false)
    (N : NoStar X e es pos) : OkE X ct (.Call (.Name x p) (e :: es) [] pos) (gCall n g) := by
  intro P ρ sg H fr h Q y h' R F hm hq
  unfold gCall at hm
  split at hm
  · rename_i xs h1 e1
    split at hm
    · rename_i ds e2
      split at hm
      · rename_i z e3
        cases hm
        refine UE.of (pe_callB caB_ok hg hm' hv UA.pa hn hdb N.he N.hpl) (ha P ρ sg H fr h _ _ _ R F e1 fun vs ρ1 H1 E1 q1 => ?_)
        exact hc (Lx P ρ1) sg H1 (bare sg) vs ds _ Q E1.rl.sim (borL_of E1.rl q1 e2) e3 fun w H' E' q => hq w ρ1 H' (E1.trans (ext_out E1.rl E')) (rep_out q)
      · cases hm
    · cases hm
  · cases hm
theorem okE_callTy {s : Bool} {n : ML} {g : List D → Option D} {id : String} (hc : DL.CallS s X (.type id) g) (hg : Gl X x) (hm' : X.mg x = none) (hv : bootBuiltins x = some (.type id)) (ha : OkA X ct (e :: es) n) (hn : x ≠ "__name__") (hdb : (x == ("__debug__" : Str)) = false)
    (N : NoStar X e es pos) : OkE X ct (.Call (.Name x p) (e :: es) [] pos) (gCall n g) := by
  intro P ρ sg H fr h Q y h' R F hm hq
  unfold gCall at hm
  split at hm
  · rename_i xs h1 e1
    split at hm
    · rename_i ds e2
      split at hm
      · rename_i z e3
        cases hm
        refine UE.of (pe_callTy caB_ok hg hm' hv UA.pa hn hdb N.he N.hpl) (ha P ρ sg H fr h _ _ _ R F e1 fun vs ρ1 H1 E1 q1 => ?_)
        exact hc (Lx P ρ1) sg H1 (bare sg) vs ds _ Q E1.rl.sim (borL_of E1.rl q1 e2) e3 fun w H' E' q => hq w ρ1 H' (E1.trans (ext_out E1.rl E')) (rep_out q)
      · cases hm
    · cases hm
  · cases hm
end
end GH
namespace GH
open PySem PySem.Spec L2
open DL (UE UT UA US USs UG UI UO Rep RepL Bor Sim Ext Later Lv With opB opB_ok caB caB_ok ixB ixB_ok slB slB_ok cutG NoStar Tg Tgs)
section
variable {K : PySem.W.Frag} {ct : CT} {P P' : Addr → Prop} {ρ ρ' : List Addr} {H H' : Hp} {h h' : Hh}
/-- a list is changed -/
theorem Rl.putL (R : Rl K ct P ρ H h) {n : Nat} {p : Addr} {ys xs : List CV} {vs : List V} (e : h[n]? = Option.some (CO.lst ys)) (hp : ρ[n]? = Option.some p) (q : VRL K P ρ H xs vs) : Ex K ct P ρ H ρ (upd H p (.lst vs)) (h.set n (.lst xs)) :=
  R.write hp (List.getElem?_eq_some_iff.mp e).1 fun m => ⟨vs, upd_same, q.up m⟩
/-- as Ex, with more to look after behind it -/
structure ExP (K : PySem.W.Frag) (ct : CT) (P : Addr → Prop) (ρ : List Addr) (H : Hp) (P' : Addr → Prop) (ρ' : List Addr) (H' : Hp) (h' : Hh) : Prop where
  rl : Rl K ct P' ρ' H' h'
  up : Up P ρ H P' ρ' H'
  kp : ∀ a o, H a = some o → a ∉ ρ → H' a = some o
  sub : ∀ a, P a → P' a
theorem Ex.p (E : Ex K ct P ρ H ρ' H' h') : ExP K ct P ρ H P ρ' H' h' := ⟨E.rl, E.up, E.kp, fun _ z => z⟩
theorem ExP.ex (E : ExP K ct P ρ H P' ρ' H' h') : Ex K ct P ρ H ρ' H' h' := ⟨E.rl.less E.sub, up_wless E.sub E.up, E.kp⟩
theorem ExP.notin (a : ExP K ct P ρ H P' ρ' H' h') : ∀ b o, H b = Option.some o → b ∉ ρ → b ∉ ρ' := fun b o e n z => by
  by_cases q : P b
  · exact a.rl.apart b (a.sub b q) z
  · exact (a.up.later b o e (fun l => l.elim n q)).2 (.inl z)
theorem ExP.trans {P2 : Addr → Prop} {ρ2 : List Addr} {H2 : Hp} {h2 : Hh} (a : ExP K ct P ρ H P' ρ' H' h') (b : ExP K ct P' ρ' H' P2 ρ2 H2 h2) : ExP K ct P ρ H P2 ρ2 H2 h2 :=
  ⟨b.rl, a.up.trans b.up, fun c o e n => b.kp c o (a.kp c o e n) (a.notin c o e n), fun c z => b.sub c (a.sub c z)⟩
theorem ExP.none (a : ExP K ct P ρ H P' ρ' H' h') {p : Addr} (e : H' p = Option.none) : H p = Option.none := a.ex.none e
end
section
variable {X : Cx} {ct : CT} {e a b c o : Expr} {pos pos' p apos cpos : Pos}
def gApp (mo me : ME) : ME := fun fr h => match mo fr h with
  | some (.ref n, h1) => match lstOf h1 (.ref n) with
    | some _ => match me fr h1 with
      | some (y, h2) => match lstOf h2 (.ref n) with
        | some xs => if xs.length < sizeLine then some (.d .none, h2.set n (.lst (xs ++ [y]))) else none
        | none => none
      | none => none
    | none => none
  | _ => none
theorem okE_app {mo me : ME} (ho : OkE X ct o mo) (he : OkE X ct e me) (hbase : attributeBase o "append" X.env (eval o X.env) = eval o X.env) (hs : starEach [e] X.env = (false, eval e X.env) :: starEach [] X.env) (hline : (apos.endLine == cpos.line) = true) :
    OkE X ct (.Call (.Attribute o "append" apos) [e] [] cpos) (gApp mo me) := by
  intro P ρ sg H fr h Q x h' R F hm hq
  unfold gApp at hm
  split at hm
  · rename_i n h1 e1
    split at hm
    · rename_i zs e2
      split at hm
      · rename_i y h2 e3
        split at hm
        · rename_i xs e4
          split at hm
          · rename_i hl
            cases hm
            refine UE.of (pe_bm PySem.F.plainAttrs_list PySem.F.slot_list_append PySem.F.type_list_append mt_append UE.pe (pa_cons UE.pe pa_nil hs) hbase (by rw [hs]; rfl) hline hs rfl) ?_
            refine ho P ρ sg H fr h _ _ _ R F e1 fun v ρ1 H1 E1 q1 => ?_
            obtain ⟨n', q, us, en, _, _, rfl, k1, k2⟩ := lst_of E1.rl q1 e2
            refine ⟨.inl ⟨rfl, us, SqL.of k1⟩, he P ρ1 sg H1 fr h1 _ _ _ E1.rl (F.up E1.up) e3 fun u ρ2 H2 E2 q2 => ?_⟩
            obtain ⟨n2, q', us', en2, l1, l2, ev, k1', k2'⟩ := lst_of E2.rl (q1.up E2.up) e4
            cases en2; cases ev
            refine ⟨q, us', u, rfl, rfl, k1', by rw [k2'.length]; exact hl, hq _ ρ2 _ ((E1.trans E2).trans (E2.rl.putL l1 l2 (k2'.append (.cons q2 .nil)))) (.d .non)⟩
          · cases hm
        · cases hm
      · cases hm
    · cases hm
  · cases hm
/-- xs.pop(k) -/
def gPop (mo me : ME) : ME := fun fr h => match mo fr h with
  | some (.ref n, h1) => match lstOf h1 (.ref n) with
    | some _ => match me fr h1 with
      | some (.d (.int k), h2) => match lstOf h2 (.ref n) with
        | some xs => match ixN xs.length k with
          | some j => match xs[j]? with | some y => if xs.length < 1000000 then some (y, h2.set n (.lst (xs.eraseIdx j))) else none | none => none
          | none => none
        | none => none
      | _ => none
    | none => none
  | _ => none
theorem okE_pop {mo me : ME} (ho : OkE X ct o mo) (he : OkE X ct e me) (hbase : attributeBase o "pop" X.env (eval o X.env) = eval o X.env) (hs : starEach [e] X.env = (false, eval e X.env) :: starEach [] X.env) (hline : (apos.endLine == cpos.line) = true) :
    OkE X ct (.Call (.Attribute o "pop" apos) [e] [] cpos) (gPop mo me) := by
  intro P ρ sg H fr h Q x h' R F hm hq
  unfold gPop at hm
  split at hm
  · rename_i n h1 e1
    split at hm
    · rename_i zs e2
      split at hm
      · rename_i k h2 e3
        split at hm
        · rename_i xs e4
          split at hm
          · rename_i j e5
            split at hm
            · rename_i y e6
              split at hm
              · rename_i hl
                cases hm
                refine UE.of (pe_bm PySem.F.plainAttrs_list PySem.F.slot_list_pop PySem.F.type_list_pop mt_popAt UE.pe (pa_cons UE.pe pa_nil hs) hbase (by rw [hs]; rfl) hline hs rfl) ?_
                refine ho P ρ sg H fr h _ _ _ R F e1 fun v ρ1 H1 E1 q1 => ?_
                obtain ⟨n', q, us, en, _, _, rfl, k1, k2⟩ := lst_of E1.rl q1 e2
                refine ⟨.inl ⟨rfl, us, SqL.of k1⟩, he P ρ1 sg H1 fr h1 _ _ _ E1.rl (F.up E1.up) e3 fun u ρ2 H2 E2 q2 => ?_⟩
                obtain ⟨n2, q', us', en2, l1, l2, ev, k1', k2'⟩ := lst_of E2.rl (q1.up E2.up) e4
                cases en2; cases ev
                cases q2 with | d q2 =>
                  cases q2
                  obtain ⟨w, w1, w2⟩ := k2'.get e6
                  have ix := ixN_seq e5
                  have E3 := E2.rl.putL l1 l2 (k2'.eraseIdx j)
                  exact ⟨q, us', k, j, w, rfl, rfl, k1', by omega, by omega, by rw [k2'.length]; exact ix.1, w1, hq _ ρ2 _ ((E1.trans E2).trans E3) (w2.up E3.up)⟩
              · cases hm
            · cases hm
          · cases hm
        · cases hm
      · cases hm
    · cases hm
  · cases hm
abbrev Ir := Nat → Hh → Option (Option CV)
abbrev MI := Fr → Hh → Option (Ir × Nat × Hh)
def Fds (K : PySem.W.Frag) (ct : CT) (P : Addr → Prop) (ρ : List Addr) (H : Hp) (Jt : It) (J : Ir) (k : Nat) : Prop := ∀ (P' : Addr → Prop) (ρ' : List Addr) (H' : Hp) (h' : Hh), ExP K ct P ρ H P' ρ' H' h' → ∀ i : Nat,
  (∀ x, J i h' = some (some x) → Jt.go i H' ∧ ∀ v H2, Jt.yld i H' v H2 → (∀ a o, H' a = some o → H2 a = some o) ∧ VR K P' ρ' H2 x v) ∧ (i = k → J i h' = some none → Jt.stop i H')
def OkI (X : Cx) (ct : CT) (tg it : Expr) (m : MI) : Prop := ∀ (P : Addr → Prop) (ρ : List Addr) (sg : St) (H : Hp) (fr : Fr) (h : Hh) (R : It → Hp → Prop) (J : Ir) (k : Nat) (h' : Hh), Rl X.K ct P ρ H h → FR X.K P ρ H fr sg → m fr h = some (J, k, h') →
  (∀ Jt P' ρ' H', ExP X.K ct P ρ H P' ρ' H' h' → Fds X.K ct P' ρ' H' Jt J k → R Jt H') → UI X tg it sg H R
variable {tg it : Expr}
def fix (xs : List CV) : Ir := fun i _ => some xs[i]?
def live (n : Nat) : Ir := fun i h => match h[n]? with | some (.lst xs) => some xs[i]? | _ => none
theorem fds_feeds {K : PySem.W.Frag} {P : Addr → Prop} {ρ : List Addr} {H : Hp} {L : Addr → Prop} {Jt : It} {ds : List D} (hL : ∀ a, L a ↔ Lx P ρ a) (f : DL.Feeds K L H Jt ds) : Fds K ct P ρ H Jt (fix (ds.map CV.d)) ds.length := by
  intro P' ρ' H' h' E i
  have la : Later L H (Lx P' ρ') H' := fun a o e n => E.up.later a o e fun z => n ((hL a).mpr z)
  obtain ⟨f1, f2⟩ := f (Lx P' ρ') H' la (fun a z => E.rl.lx z) i
  refine ⟨fun x e => ?_, fun hi _ => f2 hi.symm⟩
  unfold fix at e
  rw [List.getElem?_map] at e
  cases z : ds[i]? with
  | none => rw [z] at e; cases e
  | some d =>
    rw [z] at e
    cases e
    obtain ⟨g1, g2⟩ := f1 d z
    exact ⟨g1, fun v H2 y => ⟨(g2 v H2 y).1, .d (g2 v H2 y).2⟩⟩
/-- a list that stands in the heap, as it stands -/
theorem fds_live {K : PySem.W.Frag} {P : Addr → Prop} {ρ : List Addr} {H : Hp} {n k : Nat} {q : Addr} (hn : ρ[n]? = some q) : Fds K ct P ρ H (Itl K q) (live n) k := by
  intro P' ρ' H' h' E i
  have hn' := E.up.pre n q hn
  refine ⟨fun x e => ?_, fun _ e => ?_⟩
  · unfold live at e
    split at e
    · rename_i xs e1
      obtain ⟨q', hq', vs, o1, o2⟩ := E.rl.at e1
      rw [hn'] at hq'; cases hq'
      obtain ⟨u, u1, u2⟩ := o2.get (Option.some.inj e)
      refine ⟨⟨vs, u, SqL.of o1, u1⟩, fun v H2 y => ?_⟩
      obtain ⟨rfl, y⟩ := y
      have := (y vs (SqL.of o1)).symm.trans u1
      cases this
      exact ⟨fun _ _ z => z, u2⟩
    · cases e
  · unfold live at e
    split at e
    · rename_i xs e1
      obtain ⟨q', hq', vs, o1, o2⟩ := E.rl.at e1
      rw [hn'] at hq'; cases hq'
      exact ⟨vs, SqL.of o1, by rw [o2.length]; exact List.getElem?_eq_none_iff.mp (Option.some.inj e)⟩
    · cases e
/-- a list of one's own, or data -/
def iV (m : ME) : MI := fun fr h => match m fr h with
  | some (.ref n, h') => match lstOf h' (.ref n) with | some xs => some (live n, xs.length, h') | none => none
  | some (.d (.list ds), h') => some (fix (ds.map CV.d), ds.length, h')
  | some (.d (.tuple ds), h') => some (fix (ds.map CV.d), ds.length, h')
  | some (.d (.str z), h') => some (fix ((DL.signs z).map CV.d), (DL.signs z).length, h')
  | _ => none
theorem okI_v {m : ME} (h1 : OkE X ct it m) : OkI X ct tg it (iV m) := by
  intro P ρ sg H fr h R J k h' RL F hm hq
  unfold iV at hm
  split at hm
  · rename_i n h2 e1
    split at hm
    · rename_i xs e2
      cases hm
      refine UI.of (pi_list UE.pe) (h1 P ρ sg H fr h _ _ _ RL F e1 fun v ρ1 H1 E1 q1 => ?_)
      obtain ⟨n', q, us, en, l1, l2, rfl, k1, k2⟩ := lst_of E1.rl q1 e2
      cases en
      exact ⟨q, rfl, ⟨us, SqL.of k1⟩, hq _ P ρ1 H1 E1.p (fds_live l2)⟩
    · cases hm
  · rename_i ds h2 e1
    cases hm
    refine UI.of (pi_list UE.pe) (h1 P ρ sg H fr h _ _ _ RL F e1 fun v ρ1 H1 E1 q1 => ?_)
    cases q1 with | d q => cases q with | lst k1 n1 r1 => exact ⟨_, rfl, ⟨_, SqL.of k1⟩, hq _ P ρ1 H1 E1.p (fds_feeds (fun _ => Iff.rfl) (DL.feeds_list k1 n1 r1))⟩
  · rename_i ds h2 e1
    cases hm
    refine UI.of (pi_tup UE.pe) (h1 P ρ sg H fr h _ _ _ RL F e1 fun v ρ1 H1 E1 q1 => ?_)
    cases q1 with | d q =>
      obtain ⟨b, us, rfl, k1, _⟩ := q.tuple
      exact ⟨_, rfl, ⟨_, k1⟩, hq _ P ρ1 H1 E1.p (fds_feeds (fun _ => Iff.rfl) (DL.feeds_tup q))⟩
  · rename_i z h2 e1
    cases hm
    refine UI.of (pi_str UE.pe) (h1 P ρ sg H fr h _ _ _ RL F e1 fun v ρ1 H1 E1 q1 => ?_)
    cases q1 with | d q => cases q with | str _ hx => exact ⟨_, rfl, hq _ P ρ1 H1 E1.p (fds_feeds (fun _ => Iff.rfl) (DL.feeds_str hx))⟩
  · cases hm
/-- range(n), range(a, b) -/
def rgC (lo : Int) (n : Nat) : List CV := (DL.rangeD lo n).map CV.d
def iRg1 (m : ME) : MI := fun fr h => match m fr h with | some (.d (.int n), h') => if -(2 ^ 62) ≤ n ∧ n < 2 ^ 62 then some (fix (rgC 0 n.toNat), (DL.rangeD 0 n.toNat).length, h') else none | _ => none
theorem okI_rg1 {m : ME} (hg : Gl X "range") (hm' : X.mg "range" = none) (h1 : OkE X ct e m) (hs : starEach [e] X.env = [(false, eval e X.env)]) : OkI X ct tg (.Call (.Name "range" p) [e] [] pos) (iRg1 m) := by
  intro P ρ sg H fr h R J k h' RL F hm hq
  unfold iRg1 at hm
  split at hm
  · rename_i n h2 e1
    split at hm
    · rename_i hn
      cases hm
      refine UI.of (pi_range1 hg hm' (pa_cons UE.pe pa_nil hs) hs) (h1 P ρ sg H fr h _ _ _ RL F e1 fun v ρ1 H1 E1 q1 => ?_)
      cases q1 with | d q => cases q; exact ⟨n, rfl, hn.1, hn.2, hq _ P ρ1 H1 E1.p (fds_feeds (L := Lx P ρ1) (fun _ => Iff.rfl) (DL.feeds_range 0 _))⟩
    · cases hm
  · cases hm
mutual
def bindT : Tg → CV → Fr → Option Fr
  | .nm i, x, fr => if i < fr.length then some (fr.set i (some x)) else none
  | .tup ts, x, fr => match x with
    | .d (.tuple ds) => if ds.length = ts.len then bindTs ts (ds.map CV.d) fr else none
    | .tup xs => if xs.length = ts.len then bindTs ts xs fr else none
    | _ => none
def bindTs : Tgs → List CV → Fr → Option Fr
  | .nil, [], fr => some fr
  | .cons t ts, x :: xs, fr => match bindT t x fr with
    | some fr1 => bindTs ts xs fr1
    | none => none
  | .nil, _ :: _, _ => none
  | .cons _ _, [], _ => none
end
structure Bnd (K : PySem.W.Frag) (P : Addr → Prop) (ρ : List Addr) (H : Hp) (ix : List Nat) (fr : Fr) (sg : St) (fr' : Fr) (sg' : St) : Prop where
  fr : FR K P ρ H fr' sg'
  sl : ∀ i, i ∉ ix → sg'[i]? = sg[i]?
  len : sg'.length = sg.length
def OkG (X : Cx) (tg : Expr) (t : Tg) : Prop := ∀ (P : Addr → Prop) (ρ : List Addr) (sg : St) (H : Hp) (fr : Fr) (v : V) (x : CV) (fr' : Fr) (Q : St → Hp → Prop), FR X.K P ρ H fr sg → VR X.K P ρ H x v → bindT t x fr = some fr' →
  (∀ sg', Bnd X.K P ρ H t.ix fr sg fr' sg' → Q sg' H) → UG X tg v sg H Q
def OkGs (X : Cx) (tg : List Expr) (t : Tgs) : Prop := ∀ (P : Addr → Prop) (ρ : List Addr) (sg : St) (H : Hp) (fr : Fr) (v : List V) (x : List CV) (fr' : Fr) (Q : St → Hp → Prop), FR X.K P ρ H fr sg → VRL X.K P ρ H x v → bindTs t x fr = some fr' →
  (∀ sg', Bnd X.K P ρ H t.ix fr sg fr' sg' → Q sg' H) → DL.UGs X tg v sg H Q
theorem FR.set {K : PySem.W.Frag} {P : Addr → Prop} {ρ : List Addr} {H : Hp} {fr : Fr} {sg : St} {i : Nat} {x : CV} {v : V} (F : FR K P ρ H fr sg) (r : VR K P ρ H x v) : FR K P ρ H (fr.set i (some x)) (sg.set i (some v)) := by
  refine ⟨by rw [List.length_set, List.length_set]; exact F.1, fun j y e => ?_⟩
  by_cases hj : i = j
  · subst hj
    have hi : i < fr.length := by
      have := (List.getElem?_eq_some_iff.mp e).1
      rwa [List.length_set] at this
    rw [List.getElem?_set_self hi] at e
    cases e
    exact ⟨v, List.getElem?_set_self (by rw [F.1]; exact hi), r⟩
  · rw [List.getElem?_set_ne hj] at e
    obtain ⟨w, w1, w2⟩ := F.2 j y e
    exact ⟨w, by rw [List.getElem?_set_ne hj]; exact w1, w2⟩
theorem okG_nm {i : Nat} {x : Str} (hN : X.N.Nodup) (hi : X.N[i]? = some x) (hx : Loc X.env.scope x) (hf : X.fn x = true ∨ X.env.scope.names.lookup x = some .local) : OkG X (.Name x pos) (.nm i) := by
  intro P ρ sg H fr v y fr' Q F q hb hq
  unfold bindT at hb
  split at hb
  · cases hb
    refine UG.of (pg_name hN hi hx hf) (hq _ ⟨F.set q, fun j hj => List.getElem?_set_ne fun z => hj (by unfold DL.Tg.ix; rw [z]; exact List.mem_singleton.mpr rfl), List.length_set ..⟩)
  · cases hb
theorem okGs_nil : OkGs X [] .nil := by
  intro P ρ sg H fr v x fr' Q F q hb hq
  cases q with
  | nil =>
    unfold bindTs at hb
    cases hb
    exact DL.UGs.of pgs_nil ⟨rfl, hq sg ⟨F, fun _ _ => rfl, rfl⟩⟩
  | cons => cases hb
theorem okGs_cons {es : List Expr} {t : Tg} {ts : Tgs} (h1 : OkG X e t) (h2 : OkGs X es ts) (hs : (assignEach (e :: es) X.env).map (·.2) = assign e X.env :: (assignEach es X.env).map (·.2)) : OkGs X (e :: es) (.cons t ts) := by
  intro P ρ sg H fr v x fr' Q F q hb hq
  cases q with
  | nil => cases hb
  | cons q1 q2 =>
    unfold bindTs at hb
    split at hb
    · rename_i fr1 e1
      refine DL.UGs.of (pgs_cons UG.pg DL.UGs.pgs hs) ⟨_, _, rfl, ?_⟩
      refine h1 P ρ sg H fr _ _ fr1 _ F q1 e1 fun sg1 B1 => ?_
      refine h2 P ρ sg1 H fr1 _ _ fr' _ B1.fr q2 hb fun sg2 B2 => hq sg2 ?_
      refine ⟨B2.fr, fun i hi => ?_, B2.len.trans B1.len⟩
      unfold DL.Tgs.ix at hi
      rw [List.mem_append, not_or] at hi
      rw [B2.sl i hi.2, B1.sl i hi.1]
    · cases hb
theorem okG_tup {es : List Expr} {k : Nat} {ts : Tgs} (hc : X.calm = true) (h1 : OkGs X es ts) (hn : (assignEach es X.env).length = ts.len) (hst : (assignEach es X.env).findIdx? (·.1) = none) : OkG X (.Tuple es k pos) (.tup ts) := by
  intro P ρ sg H fr v x fr' Q F q hb hq
  unfold bindT at hb
  split at hb
  · rename_i ds
    split at hb
    · rename_i hl
      cases q with | d q =>
        obtain ⟨b, us, rfl, k1, r1⟩ := q.tuple
        exact UG.of (pg_tup hc DL.UGs.pgs hn hst) ⟨b, us, rfl, k1, by rw [r1.length]; exact hl, h1 P ρ sg H fr us _ fr' Q F (VRL.ofRep r1) hb hq⟩
    · cases hb
  · rename_i xs
    split at hb
    · rename_i hl
      cases q with | tup k1 k2 k3 => exact UG.of (pg_tup hc DL.UGs.pgs hn hst) ⟨_, _, rfl, SqT.of k1, by rw [k3.length]; exact hl, h1 P ρ sg H fr _ _ fr' Q F k3 hb hq⟩
    · cases hb
  · cases hb
end
end GH
namespace GH
open PySem PySem.Spec L2
open DL (UE UT UA US USs UG UI UO UGb UEb UTb UTs Rep RepL Bor Sim Ext Later Lv With opB opB_ok caB caB_ok ixB ixB_ok slB slB_ok cutG NoStar Tg Tgs setsS)
def wipeF (fr : Fr) : List Nat → Fr
  | [] => fr
  | v :: vs => (wipeF fr vs).set v none
theorem wipeF_length (fr : Fr) : ∀ vs, (wipeF fr vs).length = fr.length
  | [] => rfl
  | v :: vs => by unfold wipeF; rw [List.length_set, wipeF_length fr vs]
theorem wipeF_out (r : Fr) {i : Nat} : ∀ {vs : List Nat}, i ∉ vs → (wipeF r vs)[i]? = r[i]?
  | [], _ => rfl
  | v :: vs, h => by
    unfold wipeF
    rw [List.getElem?_set_ne (fun e => h (by rw [e]; exact List.mem_cons_self)), wipeF_out r fun z => h (List.mem_cons_of_mem _ z)]
theorem wipeF_in (r : Fr) {i : Nat} : ∀ {vs : List Nat}, i ∈ vs → ∀ y, (wipeF r vs)[i]? ≠ some (some y)
  | v :: vs, h, y, e => by
    unfold wipeF at e
    by_cases hv : v = i
    · subst hv
      by_cases hl : v < (wipeF r vs).length
      · rw [List.getElem?_set_self hl] at e; cases e
      · rw [List.getElem?_eq_none (by simpa using hl)] at e; cases e
    · rw [List.getElem?_set_ne hv] at e
      rcases List.mem_cons.mp h with z | z
      · exact hv z.symm
      · exact wipeF_in r z y e
theorem FR.wipe {K : PySem.W.Frag} {P : Addr → Prop} {ρ : List Addr} {H : Hp} {fr : Fr} {sg : St} (F : FR K P ρ H fr sg) (vs : List Nat) : FR K P ρ H (wipeF fr vs) (L2.wipe sg vs) := by
  refine ⟨by rw [wipeF_length, L2.wipe_length]; exact F.1, fun i x e => ?_⟩
  have hn : i ∉ vs := fun z => wipeF_in fr z x e
  rw [wipeF_out fr hn] at e
  obtain ⟨v, v1, v2⟩ := F.2 i x e
  exact ⟨v, by rw [DL.wipe_out sg hn]; exact v1, v2⟩
def lcL (J : Ir) (t : Tg) (c : MT) (m : ME) (fr : Fr) : Nat → Nat → Hh → Option (List CV × Hh)
  | 0, i, h => match J i h with | some none => some ([], h) | _ => none
  | k + 1, i, h => match J i h with
    | some (some x) => match bindT t x fr with
      | some fr1 => match c fr1 h with
        | some (true, h2) => match m fr1 h2 with
          | some (y, h3) => match lcL J t c m fr k (i + 1) h3 with | some (ys, hf) => some (y :: ys, hf) | none => none
          | none => none
        | some (false, h2) => lcL J t c m fr k (i + 1) h2
        | none => none
      | none => none
    | _ => none
def nLc (src : MI) (t : Tg) (c : MT) (m : ME) : ML := fun fr h => match src fr h with
  | some (J, k, h1) => if k ≤ sizeLine then lcL J t c m (wipeF fr t.ix) k 0 h1 else none
  | none => none
def OkTs (X : Cx) (ct : CT) (ifs : List Expr) (m : MT) : Prop := ∀ (P : Addr → Prop) (ρ : List Addr) (sg : St) (H : Hp) (fr : Fr) (h : Hh) (Q : Bool → Hp → Prop) (b : Bool) (h' : Hh), Rl X.K ct P ρ H h → FR X.K P ρ H fr sg → m fr h = some (b, h') →
  (∀ ρ' H', Ex X.K ct P ρ H ρ' H' h' → Q b H') → UTs X ifs sg H Q
def tYes : MT := fun _ h => some (true, h)
/-- the state of a comprehension between two turns -/
structure LcI (K : PySem.W.Frag) (ct : CT) (P : Addr → Prop) (ρ1 : List Addr) (H1 : Hp) (D : Addr) (ρ : List Addr) (H : Hp) (h : Hh) (acc : List CV) : Prop where
  ex : ExP K ct P ρ1 H1 (With P D) ρ H h
  here : ∃ vs, H D = some (.lst vs) ∧ VRL K (With P D) ρ H acc vs
section
variable {K : PySem.W.Frag} {ct : CT} {P : Addr → Prop} {ρ ρ1 : List Addr} {H H1 : Hp} {h : Hh} {D : Addr}
theorem up_own {o : HO} (hD : P D) (nx : ∀ φ, H D ≠ some (.ext φ)) : Up P ρ H P ρ (upd H D o) := ⟨fun _ _ e => e, fun a u e n => ⟨by rw [upd_ne (fun z => n (.inr (by rw [z]; exact hD)))]; exact e, n⟩, fun b φ e => by rw [upd_ne (fun z => nx φ (by rw [← z]; exact e))]; exact e⟩
/-- what is looked after may be changed by its owner -/
theorem Rl.own (R : Rl K ct P ρ H h) {o : HO} (hD : P D) (nx : ∀ φ, H D ≠ Option.some (.ext φ)) : Rl K ct P ρ (upd H D o) h :=
  ⟨R.len, R.nd, fun n u a e1 e2 => (R.obj n u a e1 e2).up (up_own hD nx) fun w z => by
      rw [upd_ne (fun z => R.apart D hD (by rw [← z]; exact List.mem_of_getElem? e2))]; exact z,
    fun a q => by
      by_cases z : a = D
      · rw [z, upd_same]; exact ⟨_, rfl⟩
      · rw [upd_ne z]; exact R.prot a q, R.apart⟩
end
section
variable {X : Cx} {ct : CT} {e a b c o : Expr} {pos pos' p apos cpos : Pos}
theorem okTs_nil : OkTs X ct [] tYes := by
  intro P ρ sg H fr h Q b h' R F hm hq
  cases hm
  exact UTs.of pts_nil (hq ρ H (Ex.refl R))
theorem okTs_one {c : Expr} {m : MT} (h1 : OkT X ct c m) : OkTs X ct [c] m := fun P ρ sg H fr h Q b h' R F hm hq => UTs.of (pts_one UT.pt) (h1 P ρ sg H fr h Q b h' R F hm hq)
theorem okNT_lc {elt tg iter : Expr} {ifs : List Expr} {scope : Scope} {src : MI} {t : Tg} {c : MT} {m : ME} (hi : OkI X ct tg iter src)
    (hg : ∀ s0 H0 C cl fp, OkG (DL.Cx.inBlk X scope s0 H0 C cl fp) tg t) (ht : ∀ s0 H0 C cl fp, OkTs (DL.Cx.inBlk X scope s0 H0 C cl fp) ct ifs c) (he : ∀ s0 H0 C cl fp, OkE (DL.Cx.inBlk X scope s0 H0 C cl fp) ct elt m)
    : OkNT X.K ct (tLc (UI X tg iter) (UGb X scope tg) (UTb X scope ifs) (UEb X scope elt) t.ix) (nLc src t c m) := by
  intro P ρ sg H fr h Q ys h' R F hm hq
  unfold nLc at hm
  split at hm
  · rename_i J n h1 e1
    split at hm
    · rename_i hz
      refine hi P ρ sg H fr h _ J n h1 R F e1 fun Jt P1 ρ1 H1 E1 fd => fun D hD => ?_
      have F1 : FR X.K P1 ρ1 H1 fr sg := F.up E1.up
      refine ⟨fun i k H' => k = n - i ∧ i ≤ n ∧ ∃ ρi hi' acc ys', LcI X.K ct P1 ρ1 H1 D ρi H' hi' acc ∧ lcL J t c m (wipeF fr t.ix) (n - i) i hi' = some (ys', h') ∧ acc ++ ys' = ys ∧ acc.length ≤ i,
        ⟨n, by omega, Nat.zero_le _, ρ1, h1, [], ys, ⟨⟨E1.rl.guard hD upd_same (upd_grow hD), up_with hD (upd_grow hD), fun a o e _ => upd_grow hD a o e, fun _ z => .inl z⟩, [], upd_same, .nil⟩, hm, rfl, Nat.le_refl _⟩, ?_⟩
      rintro i k H' ⟨rfl, hik, ρi, hI, acc, ys', I, eI, eacc, hacc⟩
      have fi := fd _ ρi H' hI I.ex i
      obtain ⟨accV, hD0, racc⟩ := I.here
      have nD : D ∉ ρi := I.ex.rl.apart D (.inr rfl)
      by_cases hlt : i < n
      · obtain ⟨k, hk⟩ : ∃ k, n - i = k + 1 := ⟨n - i - 1, by omega⟩
        have hk' : n - (i + 1) = k := by omega
        rw [hk] at eI
        unfold lcL at eI
        split at eI
        · rename_i x ex
          obtain ⟨hgo, hy⟩ := fi.1 x ex
          split at eI
          · rename_i fr1 eb
            refine .inr ⟨hgo, fun H'' => (∃ ρi hi' acc ys', LcI X.K ct P1 ρ1 H1 D ρi H'' hi' acc ∧ lcL J t c m (wipeF fr t.ix) (n - (i + 1)) (i + 1) hi' = some (ys', h') ∧ acc ++ ys' = ys ∧ acc.length ≤ i + 1),
              fun H'' hh => ⟨n - (i + 1), by omega, rfl, hlt, hh⟩, fun v H2 y => ?_⟩
            obtain ⟨g2, rx⟩ := hy v H2 y
            have E2 := I.ex.rl.grow g2
            have F2 : FR X.K (With P1 D) ρi H2 (wipeF fr t.ix) (L2.wipe sg t.ix) := ((F1.up I.ex.up).up E2.up).wipe t.ix
            intro s0 H0 C cl fp
            refine hg s0 H0 C cl fp (With P1 D) ρi _ H2 _ v x fr1 _ F2 rx eb fun sg2 B => ?_
            have hw : L2.wipe sg2 t.ix = L2.wipe sg t.ix := by
              refine DL.wipe_ext ?_ t.ix fun j hj => ?_
              · rw [B.len, L2.wipe_length]
              · rw [B.sl j hj, DL.wipe_out sg hj]
            refine ⟨hw, ?_⟩
            intro s0' H0' C' cl' fp'
            split at eI
            · rename_i h3 ec
              split at eI
              · rename_i y0 h4 ed
                split at eI
                · rename_i ys2 hf eR
                  cases eI
                  refine ht s0' H0' C' cl' fp' (With P1 D) ρi sg2 H2 fr1 _ _ _ _ E2.rl B.fr ec fun ρ3 H3 E3 => ?_
                  rw [if_pos rfl]
                  intro s1 H1' C1 cl1 fp1
                  refine he s1 H1' C1 cl1 fp1 (With P1 D) ρ3 sg2 H3 fr1 _ _ _ _ E3.rl (B.fr.up E3.up) ed fun w ρ4 H4 E4 q4 => ?_
                  have E24 := (E2.trans E3).trans E4
                  have hD4 : H4 D = some (.lst accV) := E24.kp D _ hD0 nD
                  have n4 : D ∉ ρ4 := E4.rl.apart D (.inr rfl)
                  refine ⟨accV, hD4, ?_, ?_⟩
                  · rw [racc.length]
                    exact Nat.lt_of_le_of_lt hacc (Nat.lt_of_lt_of_le hlt hz)
                  rw [hk']
                  have uo : Up (With P1 D) ρ4 H4 (With P1 D) ρ4 (upd H4 D (.lst (accV ++ [w]))) := up_own (.inr rfl) (fun φ z => by rw [hD4] at z; cases z)
                  refine ⟨ρ4, h4, acc ++ [y0], ys2, ⟨⟨E4.rl.own (.inr rfl) (fun φ z => by rw [hD4] at z; cases z), (I.ex.up.trans E24.up).trans uo, fun a o ee nn => ?_, I.ex.sub⟩, accV ++ [w], upd_same, ((racc.up E24.up).append (.cons q4 .nil)).up uo⟩, eR, ?_, ?_⟩
                  · rw [upd_ne (ne_of_none ee hD)]
                    exact E24.kp a o (I.ex.kp a o ee nn) (I.ex.notin a o ee nn)
                  · rw [List.append_assoc]; exact eacc
                  · rw [List.length_append, List.length_singleton]; omega
                · cases eI
              · cases eI
            · rename_i h3 ec
              refine ht s0' H0' C' cl' fp' (With P1 D) ρi sg2 H2 fr1 _ _ _ _ E2.rl B.fr ec fun ρ3 H3 E3 => ?_
              rw [if_neg Bool.false_ne_true]
              have E23 := E2.trans E3
              have hD3 : H3 D = some (.lst accV) := E23.kp D _ hD0 nD
              rw [hk']
              exact ⟨ρ3, h3, acc, ys', ⟨I.ex.trans E23.p, accV, hD3, racc.up E23.up⟩, eI, eacc, by omega⟩
            · cases eI
          · cases eI
        · cases eI
      · have ei : i = n := by omega
        subst ei
        rw [Nat.sub_self] at eI
        unfold lcL at eI
        split at eI
        · rename_i ex
          cases eI
          rw [List.append_nil] at eacc
          subst eacc
          refine .inl ⟨fi.2 rfl ex, hq D ρi H' ?_⟩
          have EE := E1.trans I.ex
          have dn : H D = none := E1.none hD
          refine ⟨I.ex.rl.less ?_, ?_, EE.kp, dn, accV, hD0, racc.up (up_less ?_)⟩
          · exact fun a z => z.elim (fun z => .inl (E1.sub a z)) .inr
          · exact ⟨EE.up.pre, fun a o ee nn => ⟨(EE.up.later a o ee nn).1, fun z => (EE.up.later a o ee nn).2 (z.elim .inl fun z => .inr (z.elim (fun z => .inl (E1.sub a z)) .inr))⟩, EE.up.ext⟩
          · exact fun a z => z.elim (fun z => .inl (E1.sub a z)) .inr
        · cases eI
    · cases hm
  · cases hm
theorem okN_lc {elt tg iter : Expr} {ifs : List Expr} {scope : Scope} {own : List (Str × Nat)} {src : MI} {t : Tg} {c : MT} {m : ME} (hc : X.calm = true) (hN : X.N.Nodup) (hi : OkI X ct tg iter src) (ok : BlkOk X.N X.env.scope scope own) (hix : own.map (·.2) = t.ix)
    (hg : ∀ s0 H0 C cl fp, OkG (DL.Cx.inBlk X scope s0 H0 C cl fp) tg t) (ht : ∀ s0 H0 C cl fp, OkTs (DL.Cx.inBlk X scope s0 H0 C cl fp) ct ifs c) (he : ∀ s0 H0 C cl fp, OkE (DL.Cx.inBlk X scope s0 H0 C cl fp) ct elt m)
    (hs : ∀ x, foldedSetIterable iter X.env x = pure x) : OkN X ct (.ListComp elt [⟨tg, iter, ifs, 0⟩] scope pos) (nLc src t c m) := by
  intro P ρ sg H fr h Q ys h' R F hm hq
  refine UE.of (pe_lc hc hN UI.pi ok DL.pgB DL.ptB DL.peB hs) ?_
  rw [hix]
  exact okNT_lc hi hg ht he P ρ sg H fr h Q ys h' R F hm hq
inductive Fl where
  | nx | bk | ct | ret (x : CV)
abbrev MS := Fr → Hh → Option (Fl × Fr × Hh)
def Post (K : PySem.W.Frag) (ct : CT) (P : Addr → Prop) (ρ : List Addr) (H : Hp) (fr' : Fr) (h' : Hh) (E : Ends) : Fl → Prop
  | .nx => ∀ sg' ρ' H', Ex K ct P ρ H ρ' H' h' → FR K P ρ' H' fr' sg' → E.nx sg' H'
  | .bk => ∀ sg' ρ' H', Ex K ct P ρ H ρ' H' h' → FR K P ρ' H' fr' sg' → E.bk sg' H'
  | .ct => ∀ sg' ρ' H', Ex K ct P ρ H ρ' H' h' → FR K P ρ' H' fr' sg' → E.ct sg' H'
  | .ret x => ∀ v ρ' H', Ex K ct P ρ H ρ' H' h' → VR K P ρ' H' x v → E.rt v H'
theorem Post.after {K : PySem.W.Frag} {P : Addr → Prop} {ρ ρ1 : List Addr} {H H1 : Hp} {h1 h' : Hh} {fr' : Fr} {E : Ends} {f : Fl} (p : Post K ct P ρ H fr' h' E f) (E1 : Ex K ct P ρ H ρ1 H1 h1) : Post K ct P ρ1 H1 fr' h' E f := by
  cases f with
  | nx => exact fun sg' ρ' H' e q => p sg' ρ' H' (E1.trans e) q
  | bk => exact fun sg' ρ' H' e q => p sg' ρ' H' (E1.trans e) q
  | ct => exact fun sg' ρ' H' e q => p sg' ρ' H' (E1.trans e) q
  | ret x => exact fun v ρ' H' e q => p v ρ' H' (E1.trans e) q
def OkS (X : Cx) (ct : CT) (st : Stmt) (m : MS) : Prop := ∀ (P : Addr → Prop) (ρ : List Addr) (sg : St) (H : Hp) (fr : Fr) (h : Hh) (E : Ends) (f : Fl) (fr' : Fr) (h' : Hh), Rl X.K ct P ρ H h → FR X.K P ρ H fr sg → m fr h = some (f, fr', h') → Post X.K ct P ρ H fr' h' E f → US X st E sg H
def OkSs (X : Cx) (ct : CT) (st : List Stmt) (m : MS) : Prop := ∀ (P : Addr → Prop) (ρ : List Addr) (sg : St) (H : Hp) (fr : Fr) (h : Hh) (E : Ends) (f : Fl) (fr' : Fr) (h' : Hh), Rl X.K ct P ρ H h → FR X.K P ρ H fr sg → m fr h = some (f, fr', h') → Post X.K ct P ρ H fr' h' E f → USs X st E sg H
variable {st : Stmt} {rest sa sb : List Stmt}
def sNx : MS := fun fr h => some (.nx, fr, h)
theorem x9 : OkSs X ct [] sNx := by
  intro P ρ sg H fr h E f fr' h' R F hm hp
  cases hm
  exact USs.of pss_nil (hp sg ρ H (Ex.refl R) F)
def q6 (m n : MS) : MS := fun fr h => match m fr h with | some (.nx, fr1, h1) => n fr1 h1 | x => x
theorem x4 {m n : MS} (h1 : OkS X ct st m) (hn : OkSs X ct rest n) : OkSs X ct (st :: rest) (q6 m n) := by
  intro P ρ sg H fr h E f fr' h' R F hm hp
  unfold q6 at hm
  refine USs.of (pss_cons US.ps USs.pss) ?_
  split at hm
  · rename_i fr1 h2 e1
    exact h1 P ρ sg H fr h _ .nx fr1 h2 R F e1 fun sg1 ρ1 H1 E1 F1 => hn P ρ1 sg1 H1 fr1 h2 E f fr' h' E1.rl F1 hm (hp.after E1)
  · rename_i hne
    cases f with
    | nx => exact absurd hm (hne _ _)
    | bk => exact h1 P ρ sg H fr h _ .bk fr' h' R F hm hp
    | ct => exact h1 P ρ sg H fr h _ .ct fr' h' R F hm hp
    | ret x => exact h1 P ρ sg H fr h _ (.ret x) fr' h' R F hm hp
def sEx (m : ME) : MS := fun fr h => match m fr h with | some (_, h') => some (.nx, fr, h') | none => none
theorem w5 {m : ME} (h1 : OkE X ct e m) (hs : swapsWith e none pos.line X.env = pure false) : OkS X ct (.Expr e pos) (sEx m) := by
  intro P ρ sg H fr h E f fr' h' R F hm hp
  unfold sEx at hm
  split at hm
  · rename_i x h2 e1
    cases hm
    exact US.of (ps_expr UE.pe hs) (h1 P ρ sg H _ h _ x h' R F e1 fun v ρ1 H1 E1 _ => hp sg ρ1 H1 E1 (F.up E1.up))
  · cases hm
def sRt (m : ME) : MS := fun fr h => match m fr h with | some (x, h') => some (.ret x, fr, h') | none => none
theorem y8 {m : ME} (h1 : OkE X ct e m) : OkS X ct (.Return (some e) pos) (sRt m) := by
  intro P ρ sg H fr h E f fr' h' R F hm hp
  unfold sRt at hm
  split at hm
  · rename_i x h2 e1
    cases hm
    exact US.of (ps_ret UE.pe) (h1 P ρ sg H _ h _ x h' R F e1 fun v ρ1 H1 E1 q => hp v ρ1 H1 E1 q)
  · cases hm
def sIf (t : MT) (m n : MS) : MS := fun fr h => match t fr h with | some (true, h') => m fr h' | some (false, h') => n fr h' | none => none
theorem q9 {mc : MT} {m n : MS} (hc : OkT X ct c mc) (h1 : OkSs X ct sa m) (hn : OkSs X ct sb n) : OkS X ct (.If c sa sb pos) (sIf mc m n) := by
  intro P ρ sg H fr h E f fr' h' R F hm hp
  unfold sIf at hm
  split at hm
  · rename_i h2 e1
    refine US.of (ps_if UT.pt USs.pss USs.pss) (hc P ρ sg H fr h _ _ _ R F e1 fun ρ1 H1 E1 => ?_)
    rw [if_pos rfl]
    exact h1 P ρ1 sg H1 fr h2 E f fr' h' E1.rl (F.up E1.up) hm (hp.after E1)
  · rename_i h2 e1
    refine US.of (ps_if UT.pt USs.pss USs.pss) (hc P ρ sg H fr h _ _ _ R F e1 fun ρ1 H1 E1 => ?_)
    rw [if_neg Bool.false_ne_true]
    exact hn P ρ1 sg H1 fr h2 E f fr' h' E1.rl (F.up E1.up) hm (hp.after E1)
  · cases hm
def forL (J : Ir) (t : Tg) (m : MS) : Nat → Nat → Fr → Hh → Option (Fl × Fr × Hh)
  | 0, i, fr, h => match J i h with | some none => some (.nx, fr, h) | _ => none
  | k + 1, i, fr, h => match J i h with
    | some (some x) => match bindT t x fr with
      | some fr1 => match m fr1 h with
        | some (.nx, fr2, h2) => forL J t m k (i + 1) fr2 h2
        | some (.ct, fr2, h2) => forL J t m k (i + 1) fr2 h2
        | some (.bk, fr2, h2) => some (.nx, fr2, h2)
        | some (.ret x, fr2, h2) => some (.ret x, fr2, h2)
        | none => none
      | none => none
    | _ => none
def sFor (src : MI) (t : Tg) (m : MS) : MS := fun fr h => match src fr h with | some (J, k, h1) => forL J t m k 0 fr h1 | none => none
theorem okS_for {tg it : Expr} {src : MI} {t : Tg} {m : MS} (hx : PassesOwn (model X.prog X.w) X.A X.env X.xe) (hc : X.calm = true) (hi : OkI X ct tg it src) (hg : OkG X tg t) (hb : OkSs X ct sa m) (hs : ∀ x, foldedSetIterable it X.env x = pure x) :
    OkS X ct (.For tg it sa [] pos) (sFor src t m) := by
  intro P ρ sg H fr h E f fr' h' R F hm hp
  unfold sFor at hm
  split at hm
  · rename_i J n h1 e1
    refine US.of (ps_for hx hc UI.pi UG.pg USs.pss hs) (hi P ρ sg H fr h _ J n h1 R F e1 fun Jt P1 ρ1 H1 E1 fd => ?_)
    refine ⟨fun i k sg' H' => k = n - i ∧ i ≤ n ∧ ∃ ρ2 fr2 h2, Ex X.K ct P1 ρ1 H1 ρ2 H' h2 ∧ FR X.K P1 ρ2 H' fr2 sg' ∧ forL J t m (n - i) i fr2 h2 = some (f, fr', h'), ⟨n, by omega, Nat.zero_le _, ρ1, fr, h1, Ex.refl E1.rl, F.up E1.up, hm⟩, ?_⟩
    rintro i k sg' H' ⟨rfl, hik, ρ2, fr2, h2, E2, F2, e2⟩
    have fi := fd P1 ρ2 H' h2 E2.p i
    have back : ∀ {ρ3 : List Addr} {H3 : Hp} {h3 : Hh}, Ex X.K ct P1 ρ1 H1 ρ3 H3 h3 → Ex X.K ct P ρ H ρ3 H3 h3 := fun q => (E1.trans q.p).ex
    have backF : ∀ {ρ3 : List Addr} {H3 : Hp} {fr3 : Fr} {sg3 : St}, FR X.K P1 ρ3 H3 fr3 sg3 → FR X.K P ρ3 H3 fr3 sg3 := fun q => q.up (up_less E1.sub)
    by_cases hlt : i < n
    · obtain ⟨k, hk⟩ : ∃ k, n - i = k + 1 := ⟨n - i - 1, by omega⟩
      have hk' : n - (i + 1) = k := by omega
      rw [hk] at e2
      unfold forL at e2
      split at e2
      · rename_i x ex
        obtain ⟨hgo, hy⟩ := fi.1 x ex
        refine .inr ⟨hgo, fun sg3 H3 => ∃ ρ2 fr2 h2, Ex X.K ct P1 ρ1 H1 ρ2 H3 h2 ∧ FR X.K P1 ρ2 H3 fr2 sg3 ∧ forL J t m (n - (i + 1)) (i + 1) fr2 h2 = some (f, fr', h'), fun sg3 H3 h3 => ⟨n - (i + 1), by omega, rfl, hlt, h3⟩, fun v H3 y => ?_⟩
        rw [hk']
        obtain ⟨g2, rx⟩ := hy v H3 y
        have E3 := E2.rl.grow g2
        have E23 := E2.trans E3
        split at e2
        · rename_i fr3 eb
          refine hg P1 ρ2 sg' H3 fr2 v x fr3 _ (F2.up E3.up) rx eb fun sg3 B => ?_
          split at e2
          · rename_i fr4 h4 e3
            exact hb P1 ρ2 sg3 H3 fr3 h2 _ .nx fr4 h4 E3.rl B.fr e3 fun sg4 ρ4 H4 q qf => ⟨ρ4, fr4, h4, E23.trans q, qf, e2⟩
          · rename_i fr4 h4 e3
            exact hb P1 ρ2 sg3 H3 fr3 h2 _ .ct fr4 h4 E3.rl B.fr e3 fun sg4 ρ4 H4 q qf => ⟨ρ4, fr4, h4, E23.trans q, qf, e2⟩
          · rename_i fr4 h4 e3
            cases e2
            exact hb P1 ρ2 sg3 H3 fr3 h2 _ .bk fr' h' E3.rl B.fr e3 fun sg4 ρ4 H4 q qf => hp sg4 ρ4 H4 (back (E23.trans q)) (backF qf)
          · rename_i w fr4 h4 e3
            cases e2
            exact hb P1 ρ2 sg3 H3 fr3 h2 _ (.ret w) fr' h' E3.rl B.fr e3 fun v ρ4 H4 q qf => hp v ρ4 H4 (back (E23.trans q)) (qf.up (up_less E1.sub))
          · cases e2
        · cases e2
      · cases e2
    · have ei : i = n := by omega
      subst ei
      rw [Nat.sub_self] at e2
      unfold forL at e2
      split at e2
      · rename_i ex
        cases e2
        exact .inl ⟨fi.2 rfl ex, hp sg' ρ2 H' (back E2) (backF F2)⟩
      · cases e2
  · cases hm
def sSet (i : Nat) (m : ME) : MS := fun fr h => match m fr h with | some (x, h1) => some (.nx, fr.set i (some x), h1) | none => none
theorem okS_set {i : Nat} {m : ME} {T : TE} (hT : ∀ (E : Ends) (sg : St) (H : Hp), T sg H (fun v H1 => E.nx (sg.set i (some v)) H1) → US X st E sg H) (h1 : OkET X.K ct T m) : OkS X ct st (sSet i m) := by
  intro P ρ sg H fr h E f fr' h' R F hm hp
  unfold sSet at hm
  split at hm
  · rename_i x h2 e1
    cases hm
    exact hT E sg H (h1 P ρ sg H fr h _ x h' R F e1 fun v ρ1 H1 E1 q => hp _ ρ1 H1 E1 ((F.up E1.up).set q))
  · cases hm
def setsF : List Nat → List CV → Fr → Fr
  | i :: is, x :: xs, fr => setsF is xs (fr.set i (some x))
  | _, _, fr => fr
def sPar (is : List Nat) (n : ML) : MS := fun fr h => match n fr h with | some (xs, h1) => if xs.length = is.length then some (.nx, setsF is xs fr, h1) else none | none => none
theorem setsF_ok {K : PySem.W.Frag} {P : Addr → Prop} {ρ : List Addr} {H : Hp} : ∀ {is : List Nat} {xs : List CV} {vs : List V} {fr : Fr} {sg : St}, FR K P ρ H fr sg → VRL K P ρ H xs vs → FR K P ρ H (setsF is xs fr) (setsS is vs sg)
  | [], _, _, _, _, F, .nil => by unfold setsF DL.setsS; exact F
  | [], _, _, _, _, F, .cons _ _ => by unfold setsF DL.setsS; exact F
  | _ :: _, _, _, _, _, F, .nil => by unfold setsF DL.setsS; exact F
  | i :: is, _, _, _, _, F, .cons r t => by unfold setsF DL.setsS; exact setsF_ok (F.set r) t
theorem okS_par {is : List Nat} {es : List Expr} {n : ML} (h1 : OkA X ct es n) (hT : ∀ (E : Ends) (sg : St) (H : Hp), (UA X es sg H fun vs H1 => vs.length = is.length ∧ E.nx (setsS is vs sg) H1) → US X st E sg H) : OkS X ct st (sPar is n) := by
  intro P ρ sg H fr h E f fr' h' R F hm hp
  unfold sPar at hm
  split at hm
  · rename_i xs h2 e1
    split at hm
    · rename_i hl
      cases hm
      exact hT E sg H (h1 P ρ sg H fr h _ xs h' R F e1 fun vs ρ1 H1 E1 q => ⟨by rw [q.length]; exact hl, hp _ ρ1 H1 E1 (setsF_ok (F.up E1.up) q)⟩)
    · cases hm
  · cases hm
def sUnp (t : Tg) (m : ME) : MS := fun fr h => match m fr h with
  | some (x, h1) => match bindT t x fr with | some fr2 => some (.nx, fr2, h1) | none => none
  | none => none
theorem okS_unp {tg : Expr} {t : Tg} {m : ME} (h1 : OkE X ct e m) (hg : OkG X tg t) (hs : swapsWithSole [tg] e pos.line X.env = pure false) (hw : swappedStores [tg] e X.env = pure none) (ha : (assignEach [tg] X.env).map (·.2) = [assign tg X.env]) :
    OkS X ct (.Assign [tg] e pos) (sUnp t m) := by
  intro P ρ sg H fr h E f fr' h' R F hm hp
  unfold sUnp at hm
  split at hm
  · rename_i x h2 e1
    split at hm
    · rename_i fr2 e2
      cases hm
      refine US.of (ps_asg UE.pe UG.pg hs hw ha) (h1 P ρ sg H fr h _ x h' R F e1 fun v ρ1 H1 E1 q => ?_)
      exact hg P ρ1 sg H1 fr v x fr' _ (F.up E1.up) q e2 fun sg2 B => hp sg2 ρ1 H1 E1 B.fr
    · cases hm
  · cases hm
end
end GH
namespace GH
open PySem PySem.Spec L2
open DL (UE UT UA US USs UG UI UO UGb UEb UTb UTs Rep RepL Bor Sim Ext Later Lv With opB opB_ok caB caB_ok ixB ixB_ok slB slB_ok cutG NoStar Tg Tgs setsS RoomG)
section
variable {X : Cx} {ct : CT} {e a b c o value : Expr} {pos pos' tpos p apos cpos : Pos} {cn j : Nat} {f : Str}
def putC {κ : Type} [DecidableEq κ] (kvs : List (κ × CV)) (k : κ) (x : CV) : List (κ × CV) :=
  if (kvs.any fun kv => decide (kv.1 = k)) = true then kvs.map (fun kv => if kv.1 = k then (kv.1, x) else kv) else kvs ++ [(k, x)]
theorem put_rel {K : PySem.W.Frag} {P : Addr → Prop} {ρ : List Addr} {H : Hp} {κ : Type} [DecidableEq κ] {k : κ} {x : CV} {v : V} {kvs : List (κ × CV)} {vs : List (κ × V)} (e : vs.map (·.1) = kvs.map (·.1)) (r : VRL K P ρ H (kvs.map (·.2)) (vs.map (·.2))) (q : VR K P ρ H x v) :
    (putK vs k v).map (·.1) = (putC kvs k x).map (·.1) ∧ VRL K P ρ H ((putC kvs k x).map (·.2)) ((putK vs k v).map (·.2)) := by
  have ha : ∀ {κ : Type} [DecidableEq κ] {k : κ} {kvs : List (κ × CV)} {vs : List (κ × V)}, vs.map (·.1) = kvs.map (·.1) → (vs.any fun kv => decide (kv.1 = k)) = (kvs.any fun kv => decide (kv.1 = k)) := by
    intro κ _ k kvs vs e
    have h1 : ∀ l : List (κ × V), (l.any fun kv => decide (kv.1 = k)) = (l.map (·.1)).any fun z => decide (z = k) := fun l => by rw [List.any_map]; rfl
    have h2 : ∀ l : List (κ × CV), (l.any fun kv => decide (kv.1 = k)) = (l.map (·.1)).any fun z => decide (z = k) := fun l => by rw [List.any_map]; rfl
    rw [h1, h2, e]
  have hmap : ∀ {kvs : List (κ × CV)} {vs : List (κ × V)}, vs.map (·.1) = kvs.map (·.1) → VRL K P ρ H (kvs.map (·.2)) (vs.map (·.2)) →
      (vs.map (fun kv => if kv.1 = k then (kv.1, v) else kv)).map (·.1) = (kvs.map (fun kv => if kv.1 = k then (kv.1, x) else kv)).map (·.1) ∧ VRL K P ρ H ((kvs.map (fun kv => if kv.1 = k then (kv.1, x) else kv)).map (·.2)) ((vs.map (fun kv => if kv.1 = k then (kv.1, v) else kv)).map (·.2)) := by
    intro kvs
    induction kvs with
    | nil =>
      intro vs e r
      cases vs with
      | nil => exact ⟨rfl, .nil⟩
      | cons a b => simp at e
    | cons kv kvs ih =>
      intro vs e r
      cases vs with
      | nil => simp at e
      | cons wv vs =>
        rw [List.map_cons, List.map_cons, List.cons.injEq] at e
        cases r with
        | cons r1 r2 =>
          obtain ⟨i1, i2⟩ := ih e.2 r2
          rw [List.map_cons, List.map_cons, List.map_cons, List.map_cons, List.map_cons, List.map_cons]
          by_cases hk : kv.1 = k
          · have hk' : wv.1 = k := e.1.trans hk
            rw [if_pos hk, if_pos hk']
            exact ⟨by rw [i1]; exact congrArg (· :: _) e.1, .cons q i2⟩
          · have hk' : ¬ wv.1 = k := fun z => hk (e.1.symm.trans z)
            rw [if_neg hk, if_neg hk']
            exact ⟨by rw [i1]; exact congrArg (· :: _) e.1, .cons r1 i2⟩
  unfold putK putC
  rw [ha e]
  split
  · exact hmap e r
  · rw [List.map_append, List.map_append, List.map_append, List.map_append, e]
    exact ⟨rfl, r.append (.cons q .nil)⟩
/-- an object that is laid at once -/
theorem laid {K : PySem.W.Frag} {P : Addr → Prop} {ρ : List Addr} {H : Hp} {h : Hh} {q : Addr} {o : CO} {u : HO} (R : Rl K ct P ρ H h) (hq : H q = none) (x : OR K ct (With P q) ρ (upd H q u) q o) : Ex K ct P ρ H (ρ ++ [q]) (upd H q u) (h ++ [o]) := by
  have np : ¬ P q := fun z => by obtain ⟨w, e⟩ := R.prot q z; rw [hq] at e; cases e
  exact ⟨(R.guard hq upd_same (upd_grow hq)).reg np x, (up_with hq (upd_grow hq)).trans up_reg, fun a o e _ => upd_grow hq a o e⟩
def keysOf : List CV → Option (List Key)
  | [] => some []
  | x :: xs => match keyOf x, keysOf xs with | some k, some ks => some (k :: ks) | _, _ => none
def kTup (n : ML) : Fr → Hh → Option (List Key × Hh) := fun fr h => match n fr h with
  | some (xs, h') => if xs.length ≤ sizeLine then match keysOf xs with | some ks => some (ks, h') | none => none else none
  | none => none
end
end GH
namespace GH
open PySem PySem.Spec L2
open DL (UE UT UA US USs UG UI UO UGb UEb UTb UTs Rep RepL Bor Sim Ext Later Lv With opB opB_ok caB caB_ok ixB ixB_ok slB slB_ok cutG NoStar Tg Tgs setsS RoomG v3 DefAt)
abbrev GSem := List CV → Hh → Option (CV × Hh)
structure FnH (P : Program) (w : World) (K : PySem.W.Frag) (mg : Str → Option Value) (base : Heap) (ct : CT) (k : Nat) (f : Addr) (fd : FuncData) (ps : List Str) (G : GSem) : Prop where
  run : ∀ (A : Around) (outer : List PySem.Env) (s : Shared) (H : Hp) (args : Args) (us : List Value) (vs : List V) (Pr : Addr → Prop) (ρ : List Addr) (h : Hh) (xs : List CV) (x : CV) (h' : Hh) (Q : VK), RoomG k A → Env0 P w K mg base A outer s H →
    BindsTo s fd args (ps.zip us) → Vals vs us → vs.length = ps.length → Rl K ct Pr ρ H h → VRL K Pr ρ H xs vs → G xs h = some (x, h') →
    (∀ v ρ' H', Ex K ct Pr ρ H ρ' H' h' → VR K Pr ρ' H' x v → Q v H') → codeAny (model P w) A (.call (.ref f) args) (CR CX0 outer P w H s Q E0) s
def padF (n : Nat) (xs : List CV) : Fr := xs.map some ++ List.replicate (n - xs.length) none
def runH (n : Nat) (m : MS) : GSem := fun xs h => match m (padF n xs) h with
  | some (.ret x, _, h') => some (x, h')
  | some (.nx, _, h') => some (.d .none, h')
  | _ => none
theorem FR.start {K : PySem.W.Frag} {P : Addr → Prop} {ρ : List Addr} {H : Hp} {xs : List CV} {vs : List V} {N : List Str} (r : VRL K P ρ H xs vs) (hl : vs.length ≤ N.length) : FR K P ρ H (padF N.length xs) (L2.start N vs) := by
  have el := r.length
  refine ⟨?_, fun i x e => ?_⟩
  · unfold L2.start padF
    simp only [List.length_append, List.length_map, List.length_replicate]
    omega
  · unfold padF at e
    by_cases hi : i < xs.length
    · rw [List.getElem?_append_left (by simpa using hi), List.getElem?_map] at e
      have e' : xs[i]? = some x := by
        cases z : xs[i]? with
        | none => rw [z] at e; cases e
        | some y => rw [z] at e; cases e; rfl
      obtain ⟨u, u1, u2⟩ := r.get e'
      exact ⟨u, DL.start_get.mpr u1, u2⟩
    · rw [List.getElem?_append_right (by simpa using hi), List.getElem?_replicate] at e
      split at e <;> cases e
section
variable {P : Program} {w : World} {K : PySem.W.Frag} {mg : Str → Option Value} {base : Heap} {ct : CT} {x qual : Str} {st : Stmt} {f : Addr} {fd : FuncData} {N ps : List Str} {k : Nat}
theorem enterH {m : MS} (F : Fun K x qual st f fd) (S : FnScope N ps (defScope st)) (hb : ∀ cdv A outer s H, fd.code = cdv → RoomG k (A.deeper (PyProof.Rows.envOfC qual (defScope st) s.heap.objs.size f cdv)) → OkSs (v3 P w K mg base N qual st f cdv A outer s H) ct (defBody st) m)
    {A : Around} {outer : List PySem.Env} {s : Shared} {H : Hp} {args : Args} {us : List Value} {vs : List V} {Pr : Addr → Prop} {ρ : List Addr} {h h1 : Hh} {xs : List CV} {Q : VK} {fl : Fl} {fr' : Fr} (hr : RoomG (k + 1) A) (e0 : Env0 P w K mg base A outer s H)
    (hbd : BindsTo s fd args (ps.zip us)) (rv : Vals vs us) (hl : vs.length = ps.length) (R : Rl K ct Pr ρ H h) (rx : VRL K Pr ρ H xs vs) (hm : m (padF N.length xs) h = some (fl, fr', h1))
    (post : Post K ct Pr ρ H fr' h1 { nx := fun _ H' => Q .non H', rt := Q } fl) : codeAny (model P w) A (.call (.ref f) args) (CR CX0 outer P w H s Q E0) s := by
  obtain ⟨oc, od, kV, doc, pm, an, cdv, ct', osl, rfl, lk, hcd⟩ := F.ex
  have inK : K.In s.heap := e0.mod.kin.keeps fun b o e => (e0.bs b o e).1
  have noL : s.heap.NoLimit := e0.mod.nolimit.keeps fun b o e => (e0.bs b o e).1
  have kinds : ∀ y ∈ ps.zip us, (defScope st).names.lookup y.1 = some .local ∨ ((defScope st).names.lookup y.1 = some .cell ∧ ((cellsFrom (s.heap.objs.size + 1) (defScope st).names []).lookup y.1).isSome = true) := by
    rintro ⟨n, v⟩ hy
    rcases S.par n (List.of_mem_zip hy).1 with q | q
    · exact Or.inl q
    · exact Or.inr ⟨q, PySem.W.cellsFrom_some _ _ _ (Or.inl q)⟩
  refine codeAny_call_function hr.rm.depth (inK _ _ lk) rfl S.co S.gen rfl (PySem.W.codeRec_of inK hcd) (hbd _ _ _ _ ?_)
  refine wpAny_newFunctionEnv_cells S.kind kinds (fun env he s1 y => ?_)
  cases he
  refine ⟨noL.keeps y.toInCall.keep, codeAny_func ?_⟩
  have hN : vs.length ≤ N.length := by
    have := congrArg List.length S.pre
    rw [List.length_take] at this
    omega
  have I1 : Inv (v3 P w K mg base N qual st f cdv A outer s H) [] (start N vs) H s1 := (inv_start S hr.rm.hd e0 hl rv y).wish _
  have run := hb cdv A outer s H rfl (hr.deeper _) Pr ρ (start N vs) H (padF N.length xs) h { nx := fun _ H' => Q .non H', rt := Q } fl fr' h1 R (FR.start (N := N) rx hN) hm post [] s1 I1
  refine wpAny_mono run (fun g s' hs => ?_) (fun _ _ z => z.elim)
  have fin : ∀ {sg' : St} {H' : Hp} {v : V} {u : Value}, Inv (v3 P w K mg base N qual st f cdv A outer s H) [] sg' H' s' → RelV v u → Q v H' → CE outer P w H s Q u s' := fun {sg' H' v u} J r q => ⟨v, H', J.os, J.bare, J.base, J.hok, r, q⟩
  cases g with
  | ret u => obtain ⟨v, sg', H', J, r, q⟩ := hs; exact fin J r q
  | next => obtain ⟨sg', H', J, q⟩ := hs; exact fin (v := V.non) (u := Value.none) J rfl q
  | brk => obtain ⟨_, _, _, q⟩ := hs; exact q.elim
  | cont => obtain ⟨_, _, _, q⟩ := hs; exact q.elim
theorem fnH_of {m : MS} (F : Fun K x qual st f fd) (S : FnScope N ps (defScope st)) (hb : ∀ cdv A outer s H, fd.code = cdv → RoomG k (A.deeper (PyProof.Rows.envOfC qual (defScope st) s.heap.objs.size f cdv)) → OkSs (v3 P w K mg base N qual st f cdv A outer s H) ct (defBody st) m) :
    FnH P w K mg base ct (k + 1) f fd ps (runH N.length m) := by
  refine ⟨fun A outer s H args us vs Pr ρ h xs x h' Q hr e0 hbd rv hl R rx hm hq => ?_⟩
  unfold runH at hm
  split at hm
  · rename_i y fr1 h1 e1
    cases hm
    exact enterH F S hb hr e0 hbd rv hl R rx e1 fun v ρ' H' E q => hq v ρ' H' E q
  · rename_i fr1 h1 e1
    cases hm
    exact enterH F S hb hr e0 hbd rv hl R rx e1 fun sg' ρ' H' E _ => hq .non ρ' H' E (.d .non)
  · cases hm
theorem j4 : FnH P w K mg base ct k f fd ps fun _ _ => none := ⟨fun _ _ _ _ _ _ _ _ _ _ _ _ _ _ _ _ _ _ _ _ _ h _ => nomatch h⟩
end
section
variable {X : Cx} {ct : CT} {k : Nat} {f : Addr} {fd : FuncData} {ps : List Str} {x : Str} {p pos apos : Pos} {e o : Expr} {es : List Expr}
def gFn (G : GSem) (n : ML) : ME := fun fr h => match n fr h with | some (xs, h1) => G xs h1 | none => none
theorem q7 {G : GSem} {n : ML} (A : DefAt X x f fd ps) (g : FnH X.prog X.w X.K X.mg X.base ct k f fd ps G) (hr : RoomG k X.A) (N : NoStar X e es pos) (hl : (e :: es).length = ps.length) (hn : OkA X ct (e :: es) n) (hln : ∀ fr h xs h', n fr h = some (xs, h') → xs.length = (e :: es).length) :
    OkE X ct (.Call (.Name x p) (e :: es) [] pos) (gFn G n) := by
  intro P ρ sg H fr h Q y h' R F hm hq
  unfold gFn at hm
  split at hm
  · rename_i xs h1 e1
    refine DL.ue_call A N (hn P ρ sg H fr h _ xs h1 R F e1 fun vs ρ1 H1 E1 q1 => fun pins s us I rv => ?_)
    have hvl : vs.length = ps.length := by rw [q1.length, hln _ _ _ _ e1, hl]
    have hul : us.length = ps.length := by rw [← rv.length]; exact hvl
    refine ⟨hul, g.run X.A X.stack s H1 ⟨us, []⟩ us vs P ρ1 h1 xs y h' Q hr I.env0 ?_ rv hvl E1.rl q1 hm fun v ρ2 H2 E2 q2 => hq v ρ2 H2 (E1.trans E2) q2⟩
    have := A.b s us I.kIn (by rw [List.append_nil]; exact hul)
    rwa [List.append_nil] at this
  · cases hm
/-- the number of arguments -/
def AL (k : Nat) (n : ML) : Prop := ∀ fr h xs h', n fr h = some (xs, h') → xs.length = k
theorem y9 : AL 0 j7 := fun fr h xs h' e => by cases e; rfl
theorem y4 {k : Nat} {m : ME} {n : ML} (hn : AL k n) : AL (k + 1) (j6 m n) := fun fr h xs h' e => by
  unfold j6 at e
  split at e
  · split at e
    · rename_i h1 ys h2 e2
      cases e
      simp [hn _ _ _ _ e2]
    · cases e
  · cases e
end
end GH
namespace GH
open PySem PySem.Spec L2
open DL (UE UT UA US USs UG UI UO UGb UEb UTb UTs Rep RepL Bor Sim Ext Later Lv With opB opB_ok caB caB_ok ixB ixB_ok slB slB_ok cutG NoStar Tg Tgs setsS RoomG v3 DefAt FSem FNew FnG FnN Sl stOf envOf)
section
variable {X : Cx} {ct : CT} {k : Nat} {f : Addr} {fd : FuncData} {ps : List Str} {x : Str} {p pos apos : Pos} {e o : Expr} {es : List Expr}
theorem envd_get {ds : List D} {i : Nat} {y : Sl} (e : (envOf (ds.map Sl.d))[i]? = some (some y)) : ∃ x, y = .d x ∧ ds[i]? = some x := by
  have := DL.envOf_get.mp e
  rw [List.getElem?_map] at this
  cases z : ds[i]? with
  | none => rw [z] at this; cases this
  | some d => rw [z] at this; cases this; exact ⟨d, rfl, rfl⟩
end
end GH
namespace GH
open PySem PySem.Spec L2
open DL (UE UT UA US USs UG UI UO UGb UEb UTb UTs Rep RepL Bor Sim Ext Later Lv With opB opB_ok caB caB_ok ixB ixB_ok slB slB_ok cutG NoStar Tg Tgs setsS RoomG v3 DefAt FSem FNew FnG FnN Sl stOf envOf OwnA)
def slC (h : Hh) : CV → Option Sl
  | .d x => some (.d x)
  | .scr ns => some (.scr (.nums ns))
  | .ref n => match h[n]? with
    | some (.lst xs) => match dats xs with | some ds => some (.own ds) | none => none
    | _ => none
  | .tup _ => none
def slCs (h : Hh) : List CV → Option (List Sl)
  | [] => some []
  | x :: xs => match slC h x, slCs h xs with | some s, some ss => some (s :: ss) | _, _ => none
def refsOf : List CV → List Nat
  | [] => []
  | .ref n :: xs => n :: refsOf xs
  | _ :: xs => refsOf xs
def back1 : CV → Sl → Hh → Hh
  | .ref n, .own ys, h => h.set n (.lst (ys.map CV.d))
  | _, _, h => h
def backC : List CV → List Sl → Hh → Hh
  | [], _, h => h
  | _ :: _, [], h => h
  | x :: xs, a :: as, h => backC xs as (back1 x a h)
theorem slCs_get {h : Hh} : ∀ {xs : List CV} {as : List Sl} {i : Nat} {s : Sl}, slCs h xs = some as → as[i]? = some s → ∃ x, xs[i]? = some x ∧ slC h x = some s
  | [], as, i, s, e, e2 => by cases e; simp at e2
  | x :: xs, as, i, s, e, e2 => by
    unfold slCs at e
    split at e
    · rename_i a as' e1 e3
      cases e
      cases i with
      | zero => simp at e2; subst e2; exact ⟨x, rfl, e1⟩
      | succ i =>
        obtain ⟨y, y1, y2⟩ := slCs_get (i := i) (s := s) e3 (by simpa using e2)
        exact ⟨y, by simpa using y1, y2⟩
    · cases e
theorem slCs_len {h : Hh} : ∀ {xs : List CV} {as : List Sl}, slCs h xs = some as → as.length = xs.length
  | [], as, e => by cases e; rfl
  | x :: xs, as, e => by
    unfold slCs at e
    split at e
    · rename_i a as' e1 e3
      cases e
      simp [slCs_len e3]
    · cases e
theorem refs_mem : ∀ {xs : List CV} {i n : Nat}, xs[i]? = some (.ref n) → n ∈ refsOf xs
  | [], i, n, e => by simp at e
  | x :: xs, 0, n, e => by simp at e; subst e; exact List.mem_cons_self
  | x :: xs, i + 1, n, e => by
    have := refs_mem (xs := xs) (i := i) (n := n) (by simpa using e)
    cases x <;> first | exact List.mem_cons_of_mem _ this | exact this
theorem refs_at : ∀ {xs : List CV} {n : Nat}, n ∈ refsOf xs → ∃ i : Nat, xs[i]? = some (CV.ref n)
  | [], n, e => by cases e
  | x :: xs, n, e => by
    cases x with
    | ref m =>
      rcases List.mem_cons.mp e with z | z
      · exact ⟨0, by rw [z]; rfl⟩
      · obtain ⟨i, hi⟩ := refs_at z; exact ⟨i + 1, by simpa using hi⟩
    | d _ => obtain ⟨i, hi⟩ := refs_at (xs := xs) e; exact ⟨i + 1, by simpa using hi⟩
    | tup _ => obtain ⟨i, hi⟩ := refs_at (xs := xs) e; exact ⟨i + 1, by simpa using hi⟩
    | scr _ => obtain ⟨i, hi⟩ := refs_at (xs := xs) e; exact ⟨i + 1, by simpa using hi⟩
theorem refs_inj : ∀ {xs : List CV} {i j n : Nat}, (refsOf xs).Nodup → xs[i]? = some (.ref n) → xs[j]? = some (.ref n) → i = j
  | [], i, j, n, _, e, _ => by simp at e
  | x :: xs, 0, 0, n, _, _, _ => rfl
  | x :: xs, 0, j + 1, n, nd, e1, e2 => by
    simp at e1; subst e1
    have := refs_mem (xs := xs) (i := j) (n := n) (by simpa using e2)
    rw [refsOf, List.nodup_cons] at nd
    exact absurd this nd.1
  | x :: xs, i + 1, 0, n, nd, e1, e2 => by
    simp at e2; subst e2
    have := refs_mem (xs := xs) (i := i) (n := n) (by simpa using e1)
    rw [refsOf, List.nodup_cons] at nd
    exact absurd this nd.1
  | x :: xs, i + 1, j + 1, n, nd, e1, e2 => by
    have nd' : (refsOf xs).Nodup := by
      cases x <;> first | (rw [refsOf, List.nodup_cons] at nd; exact nd.2) | exact nd
    exact congrArg (· + 1) (refs_inj (xs := xs) nd' (by simpa using e1) (by simpa using e2))
theorem back1_len (x : CV) (a : Sl) (h : Hh) : (back1 x a h).length = h.length := by
  unfold back1
  split
  · rw [List.length_set]
  · rfl
theorem back1_out {x : CV} {a : Sl} {h : Hh} {n : Nat} (hn : x ≠ .ref n) : (back1 x a h)[n]? = h[n]? := by
  unfold back1
  split
  · rename_i m ys
    rw [List.getElem?_set_ne (fun z => hn (by rw [z]))]
  · rfl
theorem refs_tail {x : CV} {xs : List CV} {n : Nat} (z : n ∈ refsOf xs) : n ∈ refsOf (x :: xs) := by
  cases x <;> first | exact List.mem_cons_of_mem _ z | exact z
theorem refs_ndt {x : CV} {xs : List CV} (nd : (refsOf (x :: xs)).Nodup) : (refsOf xs).Nodup := by
  cases x <;> first | (rw [refsOf, List.nodup_cons] at nd; exact nd.2) | exact nd
theorem backC_len : ∀ (xs : List CV) (as : List Sl) (h : Hh), (backC xs as h).length = h.length
  | [], _, h => by unfold backC; rfl
  | _ :: _, [], h => by unfold backC; rfl
  | x :: xs, a :: as, h => by unfold backC; rw [backC_len xs as, back1_len]
theorem backC_out : ∀ {xs : List CV} {as : List Sl} {h : Hh} {n : Nat}, n ∉ refsOf xs → (backC xs as h)[n]? = h[n]?
  | [], _, h, n, _ => by unfold backC; rfl
  | _ :: _, [], h, n, _ => by unfold backC; rfl
  | x :: xs, a :: as, h, n, hn => by
    unfold backC
    rw [backC_out fun z => hn (refs_tail z), back1_out fun z => hn (by rw [z]; exact List.mem_cons_self)]
theorem backC_at : ∀ {xs : List CV} {as : List Sl} {h : Hh} {i n : Nat} {ys : List D}, (refsOf xs).Nodup → xs[i]? = some (.ref n) → as[i]? = some (.own ys) → n < h.length → (backC xs as h)[n]? = some (.lst (ys.map CV.d))
  | [], _, h, i, n, ys, _, e, _, _ => by simp at e
  | _ :: _, [], h, i, n, ys, _, _, e, _ => by simp at e
  | x :: xs, a :: as, h, 0, n, ys, nd, e1, e2, hl => by
    simp at e1 e2
    subst e1; subst e2
    rw [refsOf, List.nodup_cons] at nd
    unfold backC back1
    rw [backC_out nd.1, List.getElem?_set_self hl]
  | x :: xs, a :: as, h, i + 1, n, ys, nd, e1, e2, hl => by
    unfold backC
    exact backC_at (refs_ndt nd) (by simpa using e1) (by simpa using e2) (by rw [back1_len]; exact hl)
section
variable {K : PySem.W.Frag} {ct : CT} {P : Addr → Prop} {ρ : List Addr} {H H' : Hp} {h : Hh} {xs : List CV} {vs : List V} {as as' : List Sl}
def Hand (ρ : List Addr) (xs : List CV) (a : Addr) : Prop := ∃ n ∈ refsOf xs, ρ[n]? = some a
def Pr0 (P : Addr → Prop) (ρ : List Addr) (xs : List CV) (a : Addr) : Prop := Lx P ρ a ∧ ¬ Hand ρ xs a
theorem own_hand (q : VRL K P ρ H xs vs) (e : slCs h xs = some as) {a : Addr} (z : OwnA (stOf vs) (envOf as) a) : Hand ρ xs a := by
  obtain ⟨i, ys, z1, z2⟩ := z
  obtain ⟨x, x1, x2⟩ := slCs_get e (DL.envOf_get.mp z1)
  cases x with
  | ref n =>
    obtain ⟨u, u1, u2⟩ := q.get x1
    rw [DL.stOf_get.mp z2] at u1; cases u1
    cases u2 with | ref hn => exact ⟨n, refs_mem x1, hn⟩
  | d _ => cases x2
  | tup _ => cases x2
  | scr _ => cases x2
theorem hand_lx {a : Addr} (z : Hand ρ xs a) : Lx P ρ a := by
  obtain ⟨n, _, e⟩ := z
  exact .inl (List.mem_of_getElem? e)
theorem lat_in (q : VRL K P ρ H xs vs) (e : slCs h xs = some as) : Later (Lx P ρ) H (Lv (Pr0 P ρ xs) (stOf vs) (envOf as)) H := fun a o ee n => ⟨ee, fun z => n (z.elim (fun z => z.1) fun z => hand_lx (own_hand q e z))⟩
theorem call_sim (R : Rl K ct P ρ H h) (q : VRL K P ρ H xs vs) (e : slCs h xs = some as) (nd : (refsOf xs).Nodup) : Sim K (Pr0 P ρ xs) (stOf vs) H (envOf as) := by
  have la := lat_in q e
  refine ⟨by simp [stOf, envOf, slCs_len e, q.length], fun i x z => ?_, fun i x z => ?_, fun i x z => ?_, fun a z => R.lx z.1, fun i j ys zs a z1 z2 z3 z4 => ?_, fun a z z' => z'.2 (own_hand q e z)⟩
  · obtain ⟨y, y1, y2⟩ := slCs_get e (DL.envOf_get.mp z)
    obtain ⟨u, u1, u2⟩ := q.get y1
    cases y with
    | d w => cases y2; cases u2 with | d r => exact ⟨u, DL.stOf_get.mpr u1, r.mono la⟩
    | ref n => unfold slC at y2; simp only at y2; split at y2 <;> first | (split at y2 <;> cases y2) | cases y2
    | tup _ => cases y2
    | scr _ => cases y2
  · obtain ⟨y, y1, y2⟩ := slCs_get e (DL.envOf_get.mp z)
    obtain ⟨u, u1, u2⟩ := q.get y1
    cases y with
    | d w => cases y2
    | ref n =>
      unfold slC at y2
      simp only at y2
      split at y2
      · rename_i ws e1
        split at y2
        · rename_i ds e2
          cases y2
          obtain ⟨b, hb, us, o1, o2⟩ := R.at e1
          cases u2 with
          | ref hn =>
            rw [hn] at hb; cases hb
            rw [dats_eq e2] at o2
            exact ⟨_, us, DL.stOf_get.mpr u1, o1, o2.rep.mono la⟩
        · cases y2
      · cases y2
    | tup _ => cases y2
    | scr _ => cases y2
  · obtain ⟨y, y1, y2⟩ := slCs_get e (DL.envOf_get.mp z)
    obtain ⟨u, u1, u2⟩ := q.get y1
    cases y with
    | d w => cases y2
    | ref n => unfold slC at y2; simp only at y2; split at y2 <;> first | (split at y2 <;> cases y2) | cases y2
    | tup _ => cases y2
    | scr ns => cases y2; cases u2 with | scr r => exact ⟨_, DL.stOf_get.mpr u1, r.map fun o h2 h3 => ⟨h2, fun z => h3 z.1⟩⟩
  · obtain ⟨y, y1, y2⟩ := slCs_get e (DL.envOf_get.mp z1)
    obtain ⟨y', y1', y2'⟩ := slCs_get e (DL.envOf_get.mp z2)
    obtain ⟨u, u1, u2⟩ := q.get y1
    obtain ⟨u', u1', u2'⟩ := q.get y1'
    rw [DL.stOf_get.mp z3] at u1; cases u1
    rw [DL.stOf_get.mp z4] at u1'; cases u1'
    cases y with
    | d w => cases y2
    | tup _ => cases y2
    | scr _ => cases y2
    | ref n =>
      cases y' with
      | d w => cases y2'
      | tup _ => cases y2'
      | scr _ => cases y2'
      | ref n' =>
        cases u2 with | ref hn => cases u2' with | ref hn' =>
          have : n = n' := (List.getElem?_inj (List.getElem?_eq_some_iff.mp hn).1 R.nd).mp (hn.trans hn'.symm)
          subst this
          exact refs_inj nd y1 y1'
/-- behind the call -/
theorem call_ex (R : Rl K ct P ρ H h) (q : VRL K P ρ H xs vs) (e : slCs h xs = some as) (nd : (refsOf xs).Nodup) (E : Ext K (Pr0 P ρ xs) (stOf vs) (envOf as) H (envOf as') H') : Ex K ct P ρ H ρ H' (backC xs as' h) ∧ Later (Lv (Pr0 P ρ xs) (stOf vs) (envOf as')) H' (Lx P ρ) H' := by
  have noown : ∀ a, ¬ Hand ρ xs a → ∀ o, H a = some o → H' a = some o := fun a n o ee => E.keep a o ee fun z => n (own_hand q e z)
  have own_of : ∀ {i n : Nat} {a : Addr}, xs[i]? = some (.ref n) → ρ[n]? = some a → ∃ ys, as'[i]? = some (.own ys) ∧ (stOf vs)[i]? = some (some (.ref a)) := by
    intro i n a hx ha
    have hi : i < as.length := by rw [slCs_len e]; exact (List.getElem?_eq_some_iff.mp hx).1
    obtain ⟨y, y1, y2⟩ := slCs_get e (List.getElem?_eq_getElem hi)
    rw [hx] at y1; cases y1
    have : ∃ ds, as[i] = .own ds := by
      unfold slC at y2
      simp only at y2
      split at y2
      · split at y2
        · rename_i ds _; exact ⟨ds, (Option.some.inj y2).symm⟩
        · cases y2
      · cases y2
    obtain ⟨ds, hd⟩ := this
    obtain ⟨ys, hys⟩ := (E.shape i).mpr ⟨ds, DL.envOf_get.mpr (by rw [List.getElem?_eq_getElem hi, hd])⟩
    obtain ⟨u, u1, u2⟩ := q.get hx
    cases u2 with | ref hn => rw [ha] at hn; cases hn; exact ⟨ys, DL.envOf_get.mp hys, DL.stOf_get.mpr u1⟩
  have lout : Later (Lv (Pr0 P ρ xs) (stOf vs) (envOf as')) H' (Lx P ρ) H' := fun a o ee n => ⟨ee, fun z => n (by
    by_cases hh : Hand ρ xs a
    · obtain ⟨m, hm, ha⟩ := hh
      obtain ⟨i, hi⟩ := refs_at hm
      obtain ⟨ys, y1, y2⟩ := own_of hi ha
      exact .inr ⟨i, ys, DL.envOf_get.mpr y1, y2⟩
    · exact .inl ⟨z, hh⟩)⟩
  have nxt : ∀ a φ, H a = some (.ext φ) → ¬ Hand ρ xs a := fun a φ ee ⟨m, _, z⟩ => by
    have hm : m < h.length := by rw [← R.len]; exact (List.getElem?_eq_some_iff.mp z).1
    obtain ⟨w, w1, _, w2⟩ := (R.obj m _ a (List.getElem?_eq_getElem hm) z).some
    rw [w1] at ee
    exact w2 φ (Option.some.inj ee)
  have up : Up P ρ H P ρ H' := ⟨fun _ _ ee => ee, fun a o ee n => ⟨noown a (fun z => n (hand_lx z)) o ee, n⟩, fun a φ ee => noown a (nxt a φ ee) _ ee⟩
  refine ⟨⟨⟨by rw [backC_len]; exact R.len, R.nd, fun n o a e1 e2 => ?_, fun a z => ?_, R.apart⟩, up, fun a o ee n => noown a (fun ⟨m, _, z⟩ => n (List.mem_of_getElem? z)) o ee⟩, lout⟩
  · by_cases hm : n ∈ refsOf xs
    · obtain ⟨i, hi⟩ := refs_at hm
      obtain ⟨ys, y1, y2⟩ := own_of hi e2
      have hl : n < h.length := by rw [← R.len]; exact (List.getElem?_eq_some_iff.mp e2).1
      rw [backC_at nd hi y1 hl] at e1
      cases e1
      obtain ⟨b, us, b1, b2, b3⟩ := E.sim.own i ys (DL.envOf_get.mpr y1)
      rw [y2] at b1; cases b1
      exact ⟨us, b2, VRL.ofRep (b3.mono lout)⟩
    · rw [backC_out hm] at e1
      refine (R.obj n o a e1 e2).up up fun u z => noown a (fun ⟨m, hm', z'⟩ => hm ?_) u z
      have : m = n := (List.getElem?_inj (List.getElem?_eq_some_iff.mp z').1 R.nd).mp (z'.trans e2.symm)
      rw [← this]; exact hm'
  · obtain ⟨o, ee⟩ := R.prot a z
    exact ⟨o, noown a (fun ⟨m, _, z'⟩ => R.apart a z (List.mem_of_getElem? z')) o ee⟩
end
section
variable {X : Cx} {ct : CT} {k : Nat} {f : Addr} {fd : FuncData} {ps : List Str} {x : Str} {p pos apos : Pos} {e o : Expr} {es : List Expr}
def callD (F : FSem) (xs : List CV) (h : Hh) : Option (CV × Hh) := match slCs h xs with
  | some as => if (refsOf xs).Nodup then match F as with | some (z, as') => some (.d z, backC xs as' h) | none => none else none
  | none => none
def gFo (F : FSem) (n : ML) : ME := fun fr h => match n fr h with | some (xs, h1) => callD F xs h1 | none => none
theorem okE_fo {F : FSem} {n : ML} (A : DefAt X x f fd ps) (g : FnG X.prog X.w X.K X.mg X.base k f fd ps F) (hr : RoomG k X.A) (N : NoStar X e es pos) (hl : (e :: es).length = ps.length) (hn : OkA X ct (e :: es) n) (hln : AL (e :: es).length n) :
    OkE X ct (.Call (.Name x p) (e :: es) [] pos) (gFo F n) := by
  intro P ρ sg H fr h Q y h' R F0 hm hq
  unfold gFo callD at hm
  split at hm
  · rename_i xs h1 e1
    split at hm
    · rename_i as e2
      split at hm
      · rename_i nd
        split at hm
        · rename_i z as' e3
          cases hm
          refine DL.ue_call A N (hn P ρ sg H fr h _ xs h1 R F0 e1 fun vs ρ1 H1 E1 q1 => fun pins s us I rv => ?_)
          have hvl : vs.length = ps.length := by rw [q1.length, hln _ _ _ _ e1, hl]
          have hul : us.length = ps.length := by rw [← rv.length]; exact hvl
          refine ⟨hul, g.run X.A X.stack s H1 ⟨us, []⟩ us vs (Pr0 P ρ1 xs) as as' z Q hr I.env0 ?_ rv hvl (call_sim E1.rl q1 e2 nd) e3 fun v H2 E2 q2 => ?_⟩
          · have := A.b s us I.kIn (by rw [List.append_nil]; exact hul)
            rwa [List.append_nil] at this
          · obtain ⟨E3, lo⟩ := call_ex E1.rl q1 e2 nd E2
            exact hq v ρ1 H2 (E1.trans E3) (.d (q2.mono lo))
        · cases hm
      · cases hm
    · cases hm
  · cases hm
def callN (F : FNew) (xs : List CV) (h : Hh) : Option (List CV × Hh) := match slCs h xs with
  | some as => if (refsOf xs).Nodup then match F as with | some (zs, as') => some (zs.map CV.d, backC xs as' h) | none => none else none
  | none => none
def nFo (F : FNew) (n : ML) : ML := fun fr h => match n fr h with | some (xs, h1) => callN F xs h1 | none => none
theorem okN_fo {F : FNew} {n : ML} (A : DefAt X x f fd ps) (g : FnN X.prog X.w X.K X.mg X.base k f fd ps F) (hr : RoomG k X.A) (N : NoStar X e es pos) (hl : (e :: es).length = ps.length) (hn : OkA X ct (e :: es) n) (hln : AL (e :: es).length n) :
    OkN X ct (.Call (.Name x p) (e :: es) [] pos) (nFo F n) := by
  intro P ρ sg H fr h Q y h' R F0 hm hq
  unfold nFo callN at hm
  split at hm
  · rename_i xs h1 e1
    split at hm
    · rename_i as e2
      split at hm
      · rename_i nd
        split at hm
        · rename_i zs as' e3
          cases hm
          refine DL.ue_call A N (hn P ρ sg H fr h _ xs h1 R F0 e1 fun vs ρ1 H1 E1 q1 => fun pins s us I rv => ?_)
          have hvl : vs.length = ps.length := by rw [q1.length, hln _ _ _ _ e1, hl]
          have hul : us.length = ps.length := by rw [← rv.length]; exact hvl
          refine ⟨hul, g.run X.A X.stack s H1 ⟨us, []⟩ us vs (Pr0 P ρ1 xs) as as' zs Q hr I.env0 ?_ rv hvl (call_sim E1.rl q1 e2 nd) e3 fun q ws H2 n => hq q ρ1 H2 ?_⟩
          · have := A.b s us I.kIn (by rw [List.append_nil]; exact hul)
            rwa [List.append_nil] at this
          · obtain ⟨E3, lo⟩ := call_ex E1.rl q1 e2 nd n.ext
            have nq : ¬ Lx P ρ1 q := E1.rl.fresh n.new
            have nh : ¬ Hand ρ1 xs q := fun z => nq (hand_lx z)
            -- the new list is looked after, too
            have gd : Rl X.K ct (With P q) ρ1 H2 (backC xs as' h1) := by
              refine ⟨E3.rl.len, E3.rl.nd, fun m o b m1 m2 => ?_, fun b z => z.elim (E3.rl.prot b) fun z => by rw [z]; exact ⟨_, n.here⟩, fun b z => z.elim (E3.rl.apart b) fun z zz => nq (.inl (by rw [← z]; exact zz))⟩
              by_cases hm : m ∈ refsOf xs
              · obtain ⟨i, hi⟩ := refs_at hm
                have hl' : m < h1.length := by rw [← E1.rl.len]; exact (List.getElem?_eq_some_iff.mp m2).1
                have hi' : i < as.length := by rw [slCs_len e2]; exact (List.getElem?_eq_some_iff.mp hi).1
                obtain ⟨w, w1, w2⟩ := slCs_get e2 (List.getElem?_eq_getElem hi')
                rw [hi] at w1; cases w1
                have : ∃ ds, as[i] = .own ds := by
                  unfold slC at w2
                  simp only at w2
                  split at w2
                  · split at w2
                    · rename_i ds _; exact ⟨ds, (Option.some.inj w2).symm⟩
                    · cases w2
                  · cases w2
                obtain ⟨ds, hd⟩ := this
                obtain ⟨ys, hys⟩ := (n.ext.shape i).mpr ⟨ds, DL.envOf_get.mpr (by rw [List.getElem?_eq_getElem hi', hd])⟩
                rw [backC_at nd hi (DL.envOf_get.mp hys) hl'] at m1
                cases m1
                obtain ⟨u, u1, u2⟩ := q1.get hi
                obtain ⟨c, us', c1, c2, c3⟩ := n.sim.own i ys hys
                cases u2 with
                | ref hn =>
                  rw [m2] at hn; cases hn
                  rw [DL.stOf_get.mpr u1] at c1; cases c1
                  refine ⟨us', c2, VRL.ofRep (c3.mono fun a o ee nn => ⟨ee, fun z => nn ?_⟩)⟩
                  rcases z with z | z | z
                  · by_cases hh : Hand ρ1 xs a
                    · obtain ⟨mm, hmm, ha⟩ := hh
                      exact Classical.byContradiction fun nn2 => (lo a o ee fun zz => nn2 (zz.elim (fun zz => .inl (.inl zz)) .inr)).2 (.inl z)
                    · exact .inl (.inl ⟨.inl z, hh⟩)
                  · by_cases hh : Hand ρ1 xs a
                    · exact Classical.byContradiction fun nn2 => (lo a o ee fun zz => nn2 (zz.elim (fun zz => .inl (.inl zz)) .inr)).2 (.inr z)
                    · exact .inl (.inl ⟨.inr z, hh⟩)
                  · exact .inl (.inr z)
              · have m1' := m1
                rw [backC_out hm] at m1
                refine (E1.rl.obj m o b m1 m2).up ⟨fun _ _ ee => ee, fun a o ee nn => ⟨(E3.up.later a o ee nn).1, fun z => z.elim (fun z => nn (.inl z)) fun z => z.elim (fun z => nn (.inr z)) fun z => by rw [z, n.new] at ee; cases ee⟩, E3.up.ext⟩ fun u z => ?_
                refine n.ext.keep b u z fun zz => hm ?_
                obtain ⟨mm, hmm, ha⟩ := own_hand q1 e2 zz
                have : mm = m := (List.getElem?_inj (List.getElem?_eq_some_iff.mp ha).1 E1.rl.nd).mp (ha.trans m2.symm)
                rw [← this]; exact hmm
            have lo2 : Later (Lv (With (Pr0 P ρ1 xs) q) (stOf vs) (envOf as')) H2 (Lx (With P q) ρ1) H2 := fun a o ee nn => ⟨ee, fun z => nn (by
              rcases z with z | z | z
              · exact Classical.byContradiction fun nn2 => (lo a o ee fun zz => nn2 (zz.elim (fun zz => .inl (.inl zz)) .inr)).2 (.inl z)
              · exact Classical.byContradiction fun nn2 => (lo a o ee fun zz => nn2 (zz.elim (fun zz => .inl (.inl zz)) .inr)).2 (.inr z)
              · exact .inl (.inr z))⟩
            refine ⟨gd, E1.up.trans ⟨fun _ _ ee => ee, fun a o ee nn => ⟨(E3.up.later a o ee nn).1, fun z => z.elim (fun z => nn (.inl z)) fun z => z.elim (fun z => nn (.inr z)) fun z => by rw [z, n.new] at ee; cases ee⟩, E3.up.ext⟩, (E1.trans E3).kp, E1.none n.new, ws, n.here, VRL.ofRep (n.rep.mono lo2)⟩
        · cases hm
      · cases hm
    · cases hm
  · cases hm
end
end GH
namespace GH
open PySem PySem.Spec L2
open DL (UE UT UA US USs UG UI UO UGb UEb UTb UTs Rep RepL Bor Sim Ext Later Lv With opB opB_ok caB caB_ok ixB ixB_ok slB slB_ok cutG NoStar Tg Tgs setsS RoomG v3 DefAt FSem FNew FnG FnN Sl stOf envOf OwnA)
end GH
namespace GH
open PySem PySem.Spec L2
open DL (UE UT UA US USs UG UI UO UGb UEb UTb UTs Rep RepL Bor Sim Ext Later Lv With opB opB_ok caB caB_ok ixB ixB_ok slB slB_ok cutG NoStar Tg Tgs setsS RoomG v3 DefAt FSem FNew FnG FnN Sl stOf envOf OwnA)
open LamX (CodeO TabS TabB)
end GH
namespace GH
open PySem PySem.Spec L2
open DL (UE UT UA US USs UG UI UO UGb UEb UTb UTs Rep RepL Bor Sim Ext Later Lv With opB opB_ok caB caB_ok ixB ixB_ok slB slB_ok cutG NoStar Tg Tgs setsS RoomG v3 DefAt FSem FNew FnG FnN Sl stOf envOf OwnA)
end GH
namespace GH
open PySem PySem.Spec L2
open DL (UE UT UA US USs UG UI UO UGb UEb UTb UTs Rep RepL Bor Sim Ext Later Lv With opB opB_ok caB caB_ok ixB ixB_ok slB slB_ok cutG NoStar Tg Tgs setsS RoomG v3 DefAt FSem FNew FnG FnN Sl stOf envOf OwnA Sc nmB nmB_ok stB stB_ok stC stC_ok Cells lcB)
end GH
namespace GH
open PySem PySem.Spec L2
open DL (UE UT UA US USs UG UI UO UGb UEb UTb UTs Rep RepL Bor Sim Ext Later Lv With opB opB_ok caB caB_ok ixB ixB_ok slB slB_ok cutG NoStar Tg Tgs setsS RoomG v3 DefAt FSem FNew FnG FnN Sl stOf envOf OwnA Sc nmB nmB_ok stB stB_ok stC stC_ok Cells lcB)
def dcL (J : Ir) (t : Tg) (mk mv : ME) (fr : Fr) : Nat → Nat → List (Key × CV) → Hh → Option (List (Key × CV) × Hh)
  | 0, i, acc, h => match J i h with | some none => some (acc, h) | _ => none
  | k + 1, i, acc, h => match J i h with
    | some (some x) => match bindT t x fr with
      | some fr1 => match mk fr1 h with
        | some (y, h2) => match keyOf y with
          | some ky => match mv fr1 h2 with
            | some (z, h3) => dcL J t mk mv fr k (i + 1) (putC acc ky z) h3
            | none => none
          | none => none
        | none => none
      | none => none
    | _ => none
def gDc (src : MI) (t : Tg) (mk mv : ME) : ME := fun fr h => match src fr h with
  | some (J, k, h1) => if k ≤ sizeLine then match dcL J t mk mv (wipeF fr t.ix) k 0 [] h1 with
    | some (kvs, hf) => some (.ref hf.length, hf ++ [.dct kvs])
    | none => none else none
  | none => none
structure DcI (K : PySem.W.Frag) (ct : CT) (P : Addr → Prop) (ρ1 : List Addr) (H1 : Hp) (D : Addr) (ρ : List Addr) (H : Hp) (h : Hh) (acc : List (Key × CV)) : Prop where
  ex : ExP K ct P ρ1 H1 (With P D) ρ H h
  here : ∃ vs, H D = some (.dK vs) ∧ vs.map (·.1) = acc.map (·.1) ∧ VRL K (With P D) ρ H (acc.map (·.2)) (vs.map (·.2))
section
variable {X : Cx} {ct : CT} {pos : Pos}
theorem okE_dc {kx vx tg iter : Expr} {scope : Scope} {own : List (Str × Nat)} {src : MI} {t : Tg} {mk mv : ME} (hc : X.calm = true) (hN : X.N.Nodup) (hi : OkI X ct tg iter src) (ok : BlkOk X.N X.env.scope scope own) (hix : own.map (·.2) = t.ix)
    (hg : ∀ s0 H0 C cl fp, OkG (DL.Cx.inBlk X scope s0 H0 C cl fp) tg t) (hk : ∀ s0 H0 C cl fp, OkE (DL.Cx.inBlk X scope s0 H0 C cl fp) ct kx mk) (he : ∀ s0 H0 C cl fp, OkE (DL.Cx.inBlk X scope s0 H0 C cl fp) ct vx mv)
    (hs : ∀ x, foldedSetIterable iter X.env x = pure x) : OkE X ct (.DictComp kx vx [⟨tg, iter, [], 0⟩] scope pos) (gDc src t mk mv) := by
  intro P ρ sg H fr h Q z h' R F hm hq
  unfold gDc at hm
  split at hm
  · rename_i J n h1 e1
    split at hm
    · rename_i hz
      split at hm
      · rename_i kvs hf eL
        cases hm
        refine UE.of (pe_dc hc hN UI.pi ok DL.pgB (DL.ptB (ifs := [])) DL.peB DL.peB hs) ?_
        rw [hix]
        refine hi P ρ sg H fr h _ J n h1 R F e1 fun Jt P1 ρ1 H1 E1 fd => fun D hD => ?_
        have F1 : FR X.K P1 ρ1 H1 fr sg := F.up E1.up
        refine ⟨fun i k H' => k = n - i ∧ i ≤ n ∧ ∃ ρi hi' acc, DcI X.K ct P1 ρ1 H1 D ρi H' hi' acc ∧ dcL J t mk mv (wipeF fr t.ix) (n - i) i acc hi' = some (kvs, hf) ∧ acc.length ≤ i,
          ⟨n, by omega, Nat.zero_le _, ρ1, h1, [], ⟨⟨E1.rl.guard hD upd_same (upd_grow hD), up_with hD (upd_grow hD), fun a o e _ => upd_grow hD a o e, fun _ z => .inl z⟩, [], upd_same, rfl, .nil⟩, eL, Nat.le_refl _⟩, ?_⟩
        rintro i k H' ⟨rfl, hik, ρi, hI, acc, I, eI, hacc⟩
        have fi := fd _ ρi H' hI I.ex i
        obtain ⟨accV, hD0, kacc, racc⟩ := I.here
        have nD : D ∉ ρi := I.ex.rl.apart D (.inr rfl)
        have lacc : accV.length = acc.length := by have := congrArg List.length kacc; rwa [List.length_map, List.length_map] at this
        by_cases hlt : i < n
        · obtain ⟨k, hk1⟩ : ∃ k, n - i = k + 1 := ⟨n - i - 1, by omega⟩
          have hk' : n - (i + 1) = k := by omega
          rw [hk1] at eI
          unfold dcL at eI
          split at eI
          · rename_i x ex
            obtain ⟨hgo, hy⟩ := fi.1 x ex
            split at eI
            · rename_i fr1 eb
              refine .inr ⟨hgo, fun H'' => (∃ ρi hi' acc, DcI X.K ct P1 ρ1 H1 D ρi H'' hi' acc ∧ dcL J t mk mv (wipeF fr t.ix) (n - (i + 1)) (i + 1) acc hi' = some (kvs, hf) ∧ acc.length ≤ i + 1),
                fun H'' hh => ⟨n - (i + 1), by omega, rfl, hlt, hh⟩, fun v H2 y => ?_⟩
              obtain ⟨g2, rx⟩ := hy v H2 y
              have E2 := I.ex.rl.grow g2
              have F2 : FR X.K (With P1 D) ρi H2 (wipeF fr t.ix) (L2.wipe sg t.ix) := ((F1.up I.ex.up).up E2.up).wipe t.ix
              intro s0 H0 C cl fp
              refine hg s0 H0 C cl fp (With P1 D) ρi _ H2 _ v x fr1 _ F2 rx eb fun sg2 B => ?_
              have hw : L2.wipe sg2 t.ix = L2.wipe sg t.ix := by
                refine DL.wipe_ext ?_ t.ix fun j hj => ?_
                · rw [B.len, L2.wipe_length]
                · rw [B.sl j hj, DL.wipe_out sg hj]
              refine ⟨hw, ?_⟩
              intro s0' H0' C' cl' fp'
              refine okTs_nil (ct := ct) (With P1 D) ρi sg2 H2 fr1 hI _ true hI E2.rl B.fr rfl fun ρ3 H3 E3 => ?_
              rw [if_pos rfl]
              split at eI
              · rename_i yk h3 ek
                split at eI
                · rename_i ky eky
                  split at eI
                  · rename_i yv h4 ev
                    intro s1 H1' C1 cl1 fp1
                    refine hk s1 H1' C1 cl1 fp1 (With P1 D) ρ3 sg2 H3 fr1 _ _ _ _ E3.rl (B.fr.up E3.up) ek fun w ρ4 H4 E4 q4 => ?_
                    intro s2 H2' C2 cl2 fp2
                    refine he s2 H2' C2 cl2 fp2 (With P1 D) ρ4 sg2 H4 fr1 _ _ _ _ E4.rl ((B.fr.up E3.up).up E4.up) ev fun w2 ρ5 H5 E5 q5 => ?_
                    have E25 := ((E2.trans E3).trans E4).trans E5
                    have hD5 : H5 D = some (.dK accV) := E25.kp D _ hD0 nD
                    have n5 : D ∉ ρ5 := E5.rl.apart D (.inr rfl)
                    refine ⟨accV, ky, key_v q4 eky, hD5, ?_, ?_⟩
                    · rw [lacc]; exact Nat.lt_of_le_of_lt hacc (Nat.lt_of_lt_of_le hlt hz)
                    rw [hk']
                    have nx : ∀ φ, H5 D ≠ some (.ext φ) := fun φ z => by rw [hD5] at z; cases z
                    have uo : Up (With P1 D) ρ5 H5 (With P1 D) ρ5 (upd H5 D (.dK (putK accV ky w2))) := up_own (.inr rfl) nx
                    obtain ⟨p1, p2⟩ := put_rel (k := ky) kacc (racc.up E25.up) q5
                    refine ⟨ρ5, h4, putC acc ky yv, ⟨⟨E5.rl.own (.inr rfl) nx, (I.ex.up.trans E25.up).trans uo, fun a o ee nn => ?_, I.ex.sub⟩, _, upd_same, p1, p2.up uo⟩, eI, ?_⟩
                    · rw [upd_ne (ne_of_none ee hD)]
                      exact E25.kp a o (I.ex.kp a o ee nn) (I.ex.notin a o ee nn)
                    · unfold putC
                      split
                      · rw [List.length_map]; omega
                      · rw [List.length_append, List.length_singleton]; omega
                  · cases eI
                · cases eI
              · cases eI
            · cases eI
          · cases eI
        · have ei : i = n := by omega
          subst ei
          rw [Nat.sub_self] at eI
          unfold dcL at eI
          split at eI
          · rename_i ex
            cases eI
            have EE := E1.trans I.ex
            have dn : H D = none := E1.none hD
            have np : ¬ P D := fun zz => by obtain ⟨w, ew⟩ := R.prot D zz; rw [dn] at ew; cases ew
            have sub : ∀ a, With P D a → With P1 D a := fun a z => z.elim (fun z => .inl (E1.sub a z)) .inr
            refine .inl ⟨fi.2 rfl ex, hq _ (ρi ++ [D]) H' ⟨(I.ex.rl.less sub).reg np ⟨accV, hD0, kacc, racc.up (up_less sub)⟩, ?_, EE.kp⟩ (.ref (by rw [← I.ex.rl.len]; simp))⟩
            have u1 : Up P ρ H (With P D) ρi H' := ⟨EE.up.pre, fun a o ee nn => ⟨(EE.up.later a o ee nn).1, fun z => (EE.up.later a o ee nn).2 (z.elim .inl fun z => .inr (sub a z))⟩, EE.up.ext⟩
            exact u1.trans up_reg
          · cases eI
      · cases hm
    · cases hm
  · cases hm
end
section
variable {X : Cx} {ct : CT} {N : List Str} {sc : Scope} {pos p : Pos} {x : Str} {e : Expr} {es : List Expr}
theorem Sg.v (C : Sc X N sc) (i : Nat) (h : nmB N sc i x = true) : OkE X ct (.Name x pos) (j9 i) := by
  obtain ⟨h1, h2, h3, h4⟩ := nmB_ok h
  exact okE_var (by rw [C.n]; exact h1) (by rw [C.s]; exact h2) h3 h4
theorem Sg.g (C : Sc X N sc) (i : Nat) (h : stB N sc i x = true) : OkG X (.Name x pos) (.nm i) := by
  obtain ⟨h1, h2, h3⟩ := stB_ok h
  exact okG_nm (by rw [C.n]; exact h1) (by rw [C.n]; exact h2) (.inl (by rw [C.s]; exact h3)) (.inr (by rw [C.s]; exact h3))
theorem Sg.set {m : ME} {p' : Pos} (C : Sc X N sc) (i : Nat) (h : stB N sc i x = true) (he : OkE X ct e m) (hs : swapsWith e (some (.Name x p')) pos.line X.env = pure false) : OkS X ct (.Assign [.Name x p'] e pos) (sSet i m) := by
  obtain ⟨h1, h2, h3⟩ := stB_ok h
  exact okS_set (DL.set_plain (by rw [C.n]; exact h1) (by rw [C.n]; exact h2) (.inl (by rw [C.s]; exact h3)) (.inr (by rw [C.s]; exact h3)) hs) he
theorem Sg.setC {m : ME} {p' : Pos} (C : Sc X N sc) (i : Nat) (hf : Cells X) (h : stC N sc i x = true) (he : OkE X ct e m) (hs : swapsWith e (some (.Name x p')) pos.line X.env = pure false) : OkS X ct (.Assign [.Name x p'] e pos) (sSet i m) := by
  obtain ⟨h1, h2, h3⟩ := stC_ok h
  exact okS_set (DL.set_plain (by rw [C.n]; exact h1) (by rw [C.n]; exact h2) (.inr (by rw [C.s]; exact h3)) (.inl (hf _ (by rw [C.s]; exact h3))) hs) he
theorem Sg.lc {elt tg iter : Expr} {ifs : List Expr} {scope : Scope} {src : MI} {t : Tg} {c : MT} {m : ME} (C : Sc X N sc) (own : List (Str × Nat)) (hc : X.calm = true) (hN : N.Nodup) (ok : blkC N sc scope own = true) (hix : own.map (·.2) = t.ix) (hs : ∀ x, foldedSetIterable iter X.env x = pure x)
    (hi : OkI X ct tg iter src) (hg : ∀ s0 H0 C cl fp, OkG (DL.Cx.inBlk X scope s0 H0 C cl fp) tg t) (ht : ∀ s0 H0 C cl fp, OkTs (DL.Cx.inBlk X scope s0 H0 C cl fp) ct ifs c) (he : ∀ s0 H0 C cl fp, OkE (DL.Cx.inBlk X scope s0 H0 C cl fp) ct elt m) :
    OkN X ct (.ListComp elt [⟨tg, iter, ifs, 0⟩] scope pos) (nLc src t c m) := okN_lc hc (by rw [C.n]; exact hN) hi (by rw [C.n, C.s]; exact blkOk_by ok) hix hg ht he hs
theorem Sg.dc {kx vx tg iter : Expr} {scope : Scope} {src : MI} {t : Tg} {mk mv : ME} (C : Sc X N sc) (own : List (Str × Nat)) (hc : X.calm = true) (hN : N.Nodup) (ok : blkC N sc scope own = true) (hix : own.map (·.2) = t.ix) (hs : ∀ x, foldedSetIterable iter X.env x = pure x)
    (hi : OkI X ct tg iter src) (hg : ∀ s0 H0 C cl fp, OkG (DL.Cx.inBlk X scope s0 H0 C cl fp) tg t) (hk : ∀ s0 H0 C cl fp, OkE (DL.Cx.inBlk X scope s0 H0 C cl fp) ct kx mk) (he : ∀ s0 H0 C cl fp, OkE (DL.Cx.inBlk X scope s0 H0 C cl fp) ct vx mv) :
    OkE X ct (.DictComp kx vx [⟨tg, iter, [], 0⟩] scope pos) (gDc src t mk mv) := okE_dc hc (by rw [C.n]; exact hN) hi (by rw [C.n, C.s]; exact blkOk_by ok) hix hg hk he hs
theorem Sg.two {y : Str} {a b : Expr} {p1 p2 pt : Pos} {kt k2 : Nat} {pt2 : Pos} {n : ML} (C : Sc X N sc) (i j : Nat) (hc : X.calm = true) (h1 : stB N sc i x = true) (h2 : stB N sc j y = true) (hij : i ≠ j) (h : OkA X ct [a, b] n)
    (hw : swappedStores [.Tuple [.Name x p1, .Name y p2] kt pt] (.Tuple [a, b] k2 pt2) X.env = pure (some [x, y])) (hs : swapsWithSole [.Tuple [.Name x p1, .Name y p2] kt pt] (.Tuple [a, b] k2 pt2) pos.line X.env = pure false) :
    OkS X ct (.Assign [.Tuple [.Name x p1, .Name y p2] kt pt] (.Tuple [a, b] k2 pt2) pos) (sPar [i, j] n) := by
  obtain ⟨q1, q2, q3⟩ := stB_ok h1
  obtain ⟨_, r2, r3⟩ := stB_ok h2
  exact okS_par h (DL.par2 hc (by rw [C.n]; exact q1) (by rw [C.n]; exact q2) (by rw [C.n]; exact r2) hij (by rw [C.s]; exact q3) (by rw [C.s]; exact r3) hw hs)
theorem Sg.three {y z : Str} {a b c : Expr} {p1 p2 p3 pt : Pos} {kt k2 : Nat} {pt2 : Pos} {n : ML} (C : Sc X N sc) (i j l : Nat) (hc : X.calm = true) (h1 : stB N sc i x = true) (h2 : stB N sc j y = true) (h3 : stB N sc l z = true) (hij : i ≠ j) (hil : i ≠ l) (hjl : j ≠ l) (h : OkA X ct [a, b, c] n)
    (hw : swappedStores [.Tuple [.Name x p1, .Name y p2, .Name z p3] kt pt] (.Tuple [a, b, c] k2 pt2) X.env = pure (some [x, y, z])) (hs : swapsWithSole [.Tuple [.Name x p1, .Name y p2, .Name z p3] kt pt] (.Tuple [a, b, c] k2 pt2) pos.line X.env = pure false) :
    OkS X ct (.Assign [.Tuple [.Name x p1, .Name y p2, .Name z p3] kt pt] (.Tuple [a, b, c] k2 pt2) pos) (sPar [i, j, l] n) := by
  obtain ⟨q1, q2, q3⟩ := stB_ok h1
  obtain ⟨_, r2, r3⟩ := stB_ok h2
  obtain ⟨_, t2, t3⟩ := stB_ok h3
  exact okS_par h (DL.par3 hc (by rw [C.n]; exact q1) (by rw [C.n]; exact q2) (by rw [C.n]; exact r2) (by rw [C.n]; exact t2) hij hil hjl (by rw [C.s]; exact q3) (by rw [C.s]; exact r3) (by rw [C.s]; exact t3) hw hs)
end
end GH
namespace GH
open PySem PySem.Spec L2
open DL (UE UT UA US USs UG UI UO UGb UEb UTb UTs Rep RepL Bor Sim Ext Later Lv With opB opB_ok caB caB_ok ixB ixB_ok slB slB_ok cutG NoStar Tg Tgs setsS RoomG v3 DefAt FSem FNew FnG FnN Sl stOf envOf OwnA Sc nmB nmB_ok stB stB_ok stC stC_ok Cells lcB)
end GH
namespace DL
open PySem PySem.Spec L2
end DL
namespace GH
open PySem PySem.Spec L2
open DL (RoomG)
section
variable {P : Program} {w : World} {K : PySem.W.Frag} {mg mb : Str → Option Value} {ct : CT} {k : Nat} {fa a : Addr} {fd : FuncData} {x : Str} {F : GSem} {st : Shared} {us : List Value} {ns : List Int}
/-- what is known of the tables: code object, number -/
structure Tbs (K : PySem.W.Frag) (ct : CT) (h : Heap) (cs : List (Addr × Nat)) : Prop where
  emp : ∀ p ∈ cs, h.get? (ct p.2).C = some { cls := .none, data := .fields #[] }
  out : ∀ p ∈ cs, K.lookup (ct p.2).C = none
  cod : ∀ p ∈ cs, PySem.W.CodeHd h p.1 (ct p.2).C
  nod : (cs.map fun p => (ct p.2).C).Nodup
  one : ∀ p ∈ cs, ∃ q, (ct p.2).fs = [q]
def h0 (cs : List (Addr × Nat)) : Hh := cs.map fun p => .tbl p.2
theorem h0_rl {H : Hp} {cs : List (Addr × Nat)} {h : Heap} (T : Tbs K ct h cs) (at_T : ∀ p ∈ cs, H (ct p.2).C = some (.tbl #[])) : Rl K ct (fun _ => False) (cs.map fun p => (ct p.2).C) H (h0 cs) := by
  refine ⟨by simp [h0], T.nod, fun n o b e1 e2 => ?_, fun _ z => z.elim, fun _ z => z.elim⟩
  unfold h0 at e1
  rw [List.getElem?_map] at e1 e2
  cases e : cs[n]? with
  | none => rw [e] at e1; cases e1
  | some p =>
    rw [e] at e1 e2
    cases e1
    cases e2
    obtain ⟨q, hq⟩ := T.one p (List.mem_of_getElem? e)
    exact ⟨rfl, q, hq, #[], at_T p (List.mem_of_getElem? e), (by simp [TriplesOk]), fun pos cv z => by simp [codeAmong] at z⟩
theorem tb_of {H : Hp} {c p : Addr} (C : PySem.W.CodeHd st.heap c p) (G : st.heap.Ns mainGlobals mg) (tb : st.heap.get? p = some { cls := .none, data := .fields #[] })
    (bm : ∃ (bm : Addr) (ob : Obj), mg "__builtins__" = some (.ref bm) ∧ bm ≠ builtinsNs ∧ st.heap.get? bm = some ob ∧ ob.cls = .type "module" ∧ ob.dict = some builtinsNs ∧ ob.data = .plain)
    (free : ∀ (b : Addr) (o : Obj), st.heap.get? b = some o → (∀ vs n, o.data ≠ .seq vs n) → o.data ≠ .fields #[] → H b = none) : LamX.TabB (hidT st.heap H) mg c p := by
  refine ⟨?_, ?_, ?_⟩
  · obtain ⟨o, vs, file, tf, fl, tg, inF, tx, tt, h1, r1, r2, r3, rest⟩ := C
    have hf : H c = none := free c o h1 (fun _ _ z => by rw [r2] at z; exact Data.noConfusion z) fun z => by
      rw [r2] at z
      cases z
      simp at r3
    exact ⟨o, vs, file, tf, fl, tg, inF, tx, tt, hidT_get h1 hf, r1, r2, r3, rest⟩
  · obtain ⟨m, ob, b1, b2, b3, b4, b5, b6⟩ := bm
    have hf : H m = none := free m ob b3 (fun _ _ z => by rw [b6] at z; exact Data.noConfusion z) fun z => by rw [b6] at z; exact Data.noConfusion z
    refine ⟨m, ob, b1, b2, fun z => ?_, fun z => ?_, hidT_get b3 hf, b4, b5, b6⟩
    · obtain ⟨o, es, ep, g1, g2, _⟩ := G
      rw [z, g1] at b3
      cases b3
      rw [g2] at b6
      exact Data.noConfusion b6
    · rw [z, tb] at b3
      cases b3
      exact Data.noConfusion b6
  · intro z
    obtain ⟨o, es, ep, g1, g2, _⟩ := G
    rw [z, tb] at g1
    cases g1
    exact Data.noConfusion g2
theorem head_run {H : Hp} {cs : List (Addr × Nat)} (KX : K.In st.heap) (nsG : st.heap.Ns mainGlobals mg) (nsB : st.heap.Ns builtinsNs mb) (bb : ∀ x : Str, x ≠ "__name__" → mb x = bootBuiltins x) (lim : st.heap.NoLimit) (gn : st.gens = #[])
    (bm : ∃ (bm : Addr) (ob : Obj), mg "__builtins__" = some (.ref bm) ∧ bm ≠ builtinsNs ∧ st.heap.get? bm = some ob ∧ ob.cls = .type "module" ∧ ob.dict = some builtinsNs ∧ ob.data = .plain) (T : Tbs K ct st.heap cs)
    (at_a : st.heap.get? a = some { cls := .type "list", data := .seq us.toArray }) (hr : RoomG k callerA) (G : ∀ base : Heap, (∀ p ∈ cs, LamX.TabB base mg p.1 (ct p.2).C) → FnH P w K mg base ct k fa fd [x] F) (bd : ∀ (s : Shared) (u : Value), BindsTo s fd ⟨[u], []⟩ [(x, u)])
    (at_H : DL.ScrAt K (fun b => b ∈ cs.map fun p => (ct p.2).C) H a ns) (at_T : ∀ p ∈ cs, H (ct p.2).C = some (.tbl #[])) (ok : HOk P w H st.heap) (only : ∀ b o, H b = some o → (b = a ∧ ∃ ob zs, o = .frz ob (.lst zs)) ∨ ∃ p ∈ cs, b = (ct p.2).C) (nk : ∀ o, H a = some o → K.lookup a = none)
    {h' : Hh} (hF : F [.scr ns] (h0 cs) = some (.d (.bool true), h')) :
    codeAny (model P w) callerA (.call (.ref fa) ⟨[.ref a], []⟩) (fun r s' => r = .ok (.ret (.bool true)) ∧ OldK st.heap s'.heap ∧ s'.os = st.os ∧ PyProof.Rows.AllBare s'.gens) st := by
  have free : ∀ (b : Addr) (o : Obj), st.heap.get? b = some o → (∀ vs n, o.data ≠ .seq vs n) → o.data ≠ .fields #[] → H b = none := by
    intro b o g1 g2 g3
    match hh : H b with
    | none => rfl
    | some u =>
      rcases only b u hh with ⟨rfl, _⟩ | ⟨p, hp, rfl⟩
      · rw [at_a] at g1; cases g1; exact (g2 _ _ rfl).elim
      · rw [T.emp p hp] at g1; cases g1; exact (g3 rfl).elim
  have lift : ∀ {b : Addr} {m : Str → Option Value}, st.heap.Ns b m → (hidT st.heap H).Ns b m := by
    rintro b m ⟨o, es, ep, g1, g2, g3⟩
    exact ⟨o, es, ep, hidT_get g1 (free b o g1 (fun _ _ z => by rw [g2] at z; exact Data.noConfusion z) fun z => by rw [g2] at z; exact Data.noConfusion z), g2, g3⟩
  have KB : K.In (hidT st.heap H) := by
    intro b o g1
    refine hidT_get (KX b o g1) ?_
    match hh : H b with
    | none => rfl
    | some u =>
      rcases only b u hh with ⟨rfl, _⟩ | ⟨p, hp, rfl⟩
      · rw [nk u hh] at g1; cases g1
      · rw [T.out p hp] at g1; cases g1
  have md : Mod K mg (hidT st.heap H) := by
    obtain ⟨mc, c1, c2⟩ := lim
    exact ⟨KB, lift nsG, ⟨mb, lift nsB, bb⟩, ⟨mc, lift c1, c2⟩⟩
  have en : Env0 P w K mg (hidT st.heap H) callerA [] st H := ⟨rfl, md, fun _ _ z => of_hidT z, Nat.le_of_eq (hidT_size _ _), trivial, (fun b hb => nomatch (show b ∈ ([] : List Addr) from hb)), ok, .of_eq gn⟩
  have G1 := G (hidT st.heap H) fun p hp => tb_of (T.cod p hp) nsG (T.emp p hp) bm free
  have R := h0_rl T at_T
  have rx : VRL K (fun _ => False) (cs.map fun p => (ct p.2).C) H [.scr ns] [.ref a] := .cons (.scr (at_H.map fun o z1 z2 => ⟨z1, fun z => z2 (z.elim id fun z => z.elim)⟩)) .nil
  have run := G1.run callerA [] st H ⟨[.ref a], []⟩ [.ref a] [.ref a] (fun _ => False) (cs.map fun p => (ct p.2).C) (h0 cs) [.scr ns] (.d (.bool true)) h' (fun v _ => v = .bl true) hr en (bd st (.ref a)) (.cons rfl .nil) rfl R rx hF (fun v ρ' H' _ q => by cases q with | d q => cases q; rfl)
  refine codeAny_mono run fun r s' z => ?_
  match r, z with
  | .ok (.ret u), z =>
    obtain ⟨v, H', os, bare, un, hok', r', rfl⟩ := z
    obtain rfl : u = Value.bool true := r'
    have key : ∀ b o, st.heap.get? b = some o → s'.heap.get? b = some o ∨ ∃ p ∈ cs, b = (ct p.2).C := fun b o e => by
      match hh : H b with
      | none => exact .inl (un.keep b o e hh (fun z => nomatch (show b ∈ ([] : List Addr) from z)) (fun z => nomatch z))
      | some t =>
        rcases only b t hh with ⟨rfl, ob, zs, rfl⟩ | q
        · obtain ⟨e1, _⟩ := ok b _ hh
          obtain ⟨e2, _⟩ := hok' b _ (un.frzs b ob _ hh)
          rw [e] at e1
          cases e1
          exact .inl e2
        · exact .inr q
    have grown : ∀ p ∈ cs, ∃ more : Array Value, s'.heap.get? (ct p.2).C = some { cls := .none, data := .fields more } := fun p hp => by
      obtain ⟨more, z⟩ := un.tbls _ #[] (at_T p hp)
      exact ⟨_, hok' _ _ z⟩
    refine ⟨rfl, ⟨fun b o e => ?_, fun b o e => ?_⟩, os, bare⟩
    · rcases key b o e with z | ⟨p, hp, rfl⟩
      · exact .inl z
      · obtain ⟨more, hm⟩ := grown p hp
        have e' := T.emp p hp
        rw [e'] at e
        cases e
        exact .inr (.inl ⟨((T.cod p hp).tab e').isCodeTable, rfl, #[], more, rfl, by rw [Array.empty_append]; exact hm⟩)
    · rcases key b o e with z | ⟨p, hp, rfl⟩
      · exact ⟨o, z⟩
      · obtain ⟨more, hm⟩ := grown p hp
        exact ⟨_, hm⟩
  | .ok .next, z => exact False.elim z
  | .ok .brk, z => exact False.elim z
  | .ok .cont, z => exact False.elim z
  | .error _, z => exact False.elim z
theorem head_call {cs : List (Addr × Nat)} (KX : K.In st.heap) (nsG : st.heap.Ns mainGlobals mg) (nsB : st.heap.Ns builtinsNs mb) (bb : ∀ x : Str, x ≠ "__name__" → mb x = bootBuiltins x) (lim : st.heap.NoLimit) (gn : st.gens = #[])
    (bm : ∃ (bm : Addr) (ob : Obj), mg "__builtins__" = some (.ref bm) ∧ bm ≠ builtinsNs ∧ st.heap.get? bm = some ob ∧ ob.cls = .type "module" ∧ ob.dict = some builtinsNs ∧ ob.data = .plain) (T : Tbs K ct st.heap cs)
    (at_a : st.heap.get? a = some { cls := .type "list", data := .seq us.toArray }) (hi : PyProof.Rows.IntsAre us ns) (hl : ns.length ≤ sizeLine) (hr : RoomG k callerA) (G : ∀ base : Heap, (∀ p ∈ cs, LamX.TabB base mg p.1 (ct p.2).C) → FnH P w K mg base ct k fa fd [x] F) (bd : ∀ (s : Shared) (u : Value), BindsTo s fd ⟨[u], []⟩ [(x, u)])
    {h' : Hh} (hF : F [.scr ns] (h0 cs) = some (.d (.bool true), h')) :
    codeAny (model P w) callerA (.call (.ref fa) ⟨[.ref a], []⟩) (fun r s' => r = .ok (.ret (.bool true)) ∧ OldK st.heap s'.heap ∧ s'.os = st.os ∧ PyProof.Rows.AllBare s'.gens) st := by
  have vv := vals_ints hi
  have ll := hi.length
  have memT : ∀ p ∈ cs, (ct p.2).C ∈ cs.map fun p => (ct p.2).C := fun p hp => List.mem_map.mpr ⟨p, hp, rfl⟩
  have aT : a ∉ cs.map fun p => (ct p.2).C := fun z => by
    obtain ⟨p, hp, e⟩ := List.mem_map.mp z
    have := T.emp p hp
    rw [e, at_a] at this
    cases this
  match hk : K.lookup a with
  | some o =>
    have e := KX a o hk
    rw [at_a] at e
    cases e
    have key : ∀ {b : Addr} {u : HO}, (fun b => if b ∈ cs.map (fun p => (ct p.2).C) then some (HO.tbl #[]) else none) b = some u → u = HO.tbl #[] ∧ ∃ p ∈ cs, b = (ct p.2).C := by
      intro b u z
      simp only at z
      split at z
      · rename_i q
        obtain ⟨p, hp, e⟩ := List.mem_map.mp q
        exact ⟨(Option.some.inj z).symm, p, hp, e.symm⟩
      · cases z
    refine head_run (H := fun b => if b ∈ cs.map (fun p => (ct p.2).C) then some (HO.tbl #[]) else none) KX nsG nsB bb lim gn bm T at_a hr G bd (.inr ⟨_, us.toArray, _, hk, rfl, rfl, rfl, ?_, ?_⟩) (fun p hp => if_pos (memT p hp)) (fun b u z => ?_) (fun b u z => .inr (key z).2) (fun u z => ?_) hF
    · rw [List.size_toArray, ll]; exact hl
    · simpa using vv
    · obtain ⟨rfl, p, hp, rfl⟩ := key z
      exact T.emp p hp
    · obtain ⟨_, p, hp, e⟩ := key z
      exact absurd (by rw [e]; exact memT p hp) aT
  | none =>
    have key : ∀ {b : Addr} {u : HO}, (fun b => if b = a then some (HO.frz { cls := .type "list", data := .seq us.toArray } (.lst (ns.map V.int))) else if b ∈ cs.map (fun p => (ct p.2).C) then some (HO.tbl #[]) else none) b = some u →
        (b = a ∧ u = HO.frz { cls := .type "list", data := .seq us.toArray } (.lst (ns.map V.int))) ∨ (u = HO.tbl #[] ∧ ∃ p ∈ cs, b = (ct p.2).C) := by
      intro b u z
      simp only at z
      split at z
      · rename_i h; exact .inl ⟨h, (Option.some.inj z).symm⟩
      · split at z
        · rename_i q
          obtain ⟨p, hp, e⟩ := List.mem_map.mp q
          exact .inr ⟨(Option.some.inj z).symm, p, hp, e.symm⟩
        · cases z
    refine head_run (H := fun b => if b = a then some (HO.frz { cls := .type "list", data := .seq us.toArray } (.lst (ns.map V.int))) else if b ∈ cs.map (fun p => (ct p.2).C) then some (HO.tbl #[]) else none) KX nsG nsB bb lim gn bm T at_a hr G bd (.inl ⟨_, if_pos rfl, aT⟩)
      (fun p hp => (if_neg (fun z => aT (by rw [← z]; exact memT p hp))).trans (if_pos (memT p hp))) (fun b u z => ?_) (fun b u z => ?_) (fun u z => hk) hF
    · rcases key z with ⟨rfl, rfl⟩ | ⟨rfl, p, hp, rfl⟩
      · exact ⟨at_a, by rw [List.length_map]; exact hl, us, _, vv, at_a⟩
      · exact T.emp p hp
    · rcases key z with ⟨rfl, rfl⟩ | ⟨rfl, q⟩
      · exact .inl ⟨rfl, _, _, rfl⟩
      · exact .inr q
end
/-- what the table of a law's program gives -/
def LawH (l : PySem.W.OpenLaw) (w : World) (K : PySem.W.Frag) (k : Nat) (x : Str) (mg : Str → Option Value) (fa : Addr) (h : Heap) (F : GSem) (tn : List Nat) : Prop :=
  ∃ (fd : FuncData) (ct : CT) (cs : List (Addr × Nat)), Tbs K ct h cs ∧ cs.map (·.2) = tn ∧ (∀ (s : Shared) (u : Value), BindsTo s fd ⟨[u], []⟩ [(x, u)]) ∧
    ∀ base : Heap, (∀ p ∈ cs, LamX.TabB base mg p.1 (ct p.2).C) → FnH l.prog w K mg base ct k fa fd [x] F
theorem walkH {l : PySem.W.OpenLaw} {n k : Nat} {q : Program} {loose : List Str} {XP : (Str → Option Value) → Heap → Prop} {YP : World → Heap → Prop} {d : DefRec} {K : Params → PySem.W.Frag} {x : Str} {F : GSem} (tn : List Nat) (hn : l.most = some n) (hs : n ≤ sizeLine) (hdf : d.params.defaults = []) (hr : RoomG k callerA)
    (hY : ∀ (w : World) (h : Heap), YP w h → (K w.params).In h)
    (hG : ∀ (w : World) (mg : Str → Option Value) (fa : Addr) (h : Heap), YP w h → (K w.params).In h → h.Ns mainGlobals mg → mg d.name = some (.ref fa) → LawH l w (K w.params) k x mg fa h F tn)
    (hF : ∀ ns : List Int, ns.length ≤ n → (∀ z ∈ ns, Builtin.Int.intBits z ≤ 1048576) → ∃ h', F [.scr ns] (tn.map CO.tbl) = some (.d (.bool true), h')) : PySem.W.WalkO q loose XP YP l.row.toRowW d [] (fun f vs => PySem.call f vs) := by
  refine Att.attach_callB hn hdf fun w s₀ s₁ mg mb fa o pm cd doc a vs ns G Y ho hd hcd hmg hobj hints hlen hbits hg => ?_
  obtain ⟨fd, ct, cs, T, et, bd, hG⟩ := hG w mg fa _ Y (hY w _ Y) G.T.g hmg
  obtain ⟨h', e⟩ := hF ns hlen hbits
  have e' : F [.scr ns] (h0 cs) = some (.d (.bool true), h') := by
    rw [← e, ← et, List.map_map]
    all_goals rfl
  exact head_call (hY w _ Y) G.T.g G.T.b G.T.builtins G.T.nolimit hg G.T.bmain T hobj hints (Nat.le_trans hlen hs) hr hG bd e'
end GH
namespace GH
open PySem PySem.Spec L2
open DL (UE UT UA NoStar caB caB_ok isT isT2 isT_ok isT2_ok tyName IsTy)
section
variable {X : Cx} {ct : CT} {e : Expr} {pos : Pos}
/-- isinstance of data -/
def gIsi (m : ME) (f : D → Option Bool) : ME := fun fr h => match m fr h with
  | some (x, h') => match vw h' x with
    | some d => match f d with | some b => some (.d (.bool b), h') | none => none
    | none => none
  | none => none
theorem okE_isi1 {m : ME} {y : Str} {t : String} {py pf : Pos} (hg : Gl X "isinstance") (hm' : X.mg "isinstance" = none) (h1 : OkE X ct e m) (T : IsTy X y t)
    (N : NoStar X e [.Name y py] pos) : OkE X ct (.Call (.Name "isinstance" pf) [e, .Name y py] [] pos) (gIsi m fun d => isT d t) := by
  intro P ρ sg H fr h Q x h' R F hm hq
  unfold gIsi at hm
  split at hm
  · rename_i z h2 e1
    split at hm
    · rename_i d e2
      split at hm
      · rename_i b e3
        cases hm
        refine UE.of (pe_callB (caB_ok (f := .builtin "isinstance")) hg hm' (by decide +kernel) (pa_cons UE.pe (pa_cons (pe_bltn (v := .ty t) T.g T.m T.v rfl T.n T.d) pa_nil rfl) N.he) (by decide) (by decide) N.he N.hpl) ?_
        refine h1 P ρ sg H fr h _ _ _ R F e1 fun v ρ1 H1 E1 q1 => ?_
        exact ⟨_, call_isi, v, .ty t, .type (tyName d), .type t, b, rfl, .ty t, (bor_of (s := true) (sg := sg) E1.rl q1 e2).ty, kit_ty (isT_ok e3), hq _ ρ1 H1 E1 (.d (.bl _))⟩
      · cases hm
    · cases hm
  · cases hm
theorem okE_isi2 {m : ME} {y w : Str} {t u : String} {py pw pt pf : Pos} {k : Nat} (hg : Gl X "isinstance") (hm' : X.mg "isinstance" = none) (h1 : OkE X ct e m) (T : IsTy X y t) (U : IsTy X w u)
    (N : NoStar X e [.Tuple [.Name y py, .Name w pw] k pt] pos) : OkE X ct (.Call (.Name "isinstance" pf) [e, .Tuple [.Name y py, .Name w pw] k pt] [] pos) (gIsi m (isT2 t u)) := by
  intro P ρ sg H fr h Q x h' R F hm hq
  unfold gIsi at hm
  split at hm
  · rename_i z h2 e1
    split at hm
    · rename_i d e2
      split at hm
      · rename_i b e3
        cases hm
        refine UE.of (pe_callB (caB_ok (f := .builtin "isinstance")) hg hm' (by decide +kernel) (pa_cons UE.pe (pa_cons (pe_tup (pa_cons (pe_bltn (v := .ty t) T.g T.m T.v rfl T.n T.d) (pa_cons (pe_bltn (v := .ty u) U.g U.m U.v rfl U.n U.d) pa_nil rfl) rfl)) pa_nil rfl) N.he) (by decide) (by decide) N.he N.hpl) ?_
        refine h1 P ρ sg H fr h _ _ _ R F e1 fun v ρ1 H1 E1 q1 => ?_
        refine ⟨by show 2 ≤ sizeLine; decide, fun q hn => ?_⟩
        have E2 := E1.rl.grow (upd_grow (o := .tup [.ty t, .ty u]) hn)
        exact ⟨_, call_isiT, v, q, [.ty t, .ty u], .type (tyName d), [.type t, .type u], b, rfl, upd_same, .cons (.ty t) (.cons (.ty u) .nil), (bor_of (s := true) (sg := sg) E2.rl (q1.up E2.up) e2).ty, isT2_ok e3, hq _ ρ1 _ (E1.trans E2) (.d (.bl _))⟩
      · cases hm
    · cases hm
  · cases hm
end
end GH
namespace GH
open PySem PySem.Spec L2
open DL (UE UT UA US USs UG UI UO Rep RepL Bor Sim Ext Later Lv With opB opB_ok caB caB_ok ixB ixB_ok slB slB_ok cutG NoStar Tg Tgs)
open DL (UE UT UA US USs UG UI UO UGb UEb UTb UTs Rep RepL Bor Sim Ext Later Lv With opB opB_ok caB caB_ok ixB ixB_ok slB slB_ok cutG NoStar Tg Tgs setsS RoomG v3 DefAt FSem FNew FnG FnN Sl stOf envOf OwnA Sc nmB nmB_ok stB stB_ok stC stC_ok Cells lcB)
end GH
namespace GH
open PySem PySem.Spec L2
/-- a def of the module -/
structure TDf (K : PySem.W.Frag) (mg : Str → Option Value) (nm ql : Str) (st : Stmt) (ps : List Str) where
  f : Addr
  d : FuncData
  F : Fun K nm ql st f d
  b : Binds K d ps []
  m : mg nm = some (.ref f)
end GH
namespace DL
open PySem PySem.Spec L2
def wo {α : Type} (m : Option α) (Q : α → Prop) : Prop := ∃ a, m = some a ∧ Q a
section
variable {α β : Type} {Q P : α → Prop}
theorem y6 {a : α} : wo (some a) Q ↔ Q a := ⟨fun ⟨b, e, h⟩ => by cases e; exact h, fun h => ⟨a, rfl, h⟩⟩
theorem y7 : wo (none : Option α) Q ↔ False := ⟨fun ⟨b, e, h⟩ => by (cases e), False.elim⟩
theorem wo_mono {m : Option α} (h : wo m P) (k : ∀ a, P a → Q a) : wo m Q := let ⟨a, e, p⟩ := h; ⟨a, e, k a p⟩
theorem wo_guard {c : Prop} [Decidable c] {m : Option α} : wo (if c then m else none) Q ↔ c ∧ wo m Q := by
  by_cases h : c
  · simp [h]
  · simp [h, y7]
theorem wo_eq {m : Option α} {a : α} (h : wo m (fun x => x = a)) : m = some a := let ⟨b, e, p⟩ := h; by rw [e, p]
end
abbrev KE := D × Env → Prop
def kEx (Q : Option D × Env → Prop) : KE := fun x => Q (some x.1, x.2)
theorem kEx_ap {Q d r} : kEx Q (d, r) ↔ Q (some d, r) := Iff.rfl
theorem wo_preEx {m : SE} {r : Env} {Q} : wo (Opd.pre (.ex m) r) Q ↔ wo (m r) (kEx Q) := by
  simp only [Opd.pre]
  unfold kEx
  rcases m r with _ | ⟨d, r1⟩ <;> simp [y7, y6]
theorem wo_preDc {kvs} {r : Env} {Q} : wo (Opd.pre (.dc kvs) r) Q ↔ Q (none, r) := y6
theorem here_dc {kvs} {r : Env} : Opd.here (.dc kvs) r = true := rfl
theorem wo_preSl {i : Nat} {r : Env} {Q} : wo (Opd.pre (.sl i) r) Q ↔ Q (none, r) := y6
def hereB : Option (Option Sl) → Bool
  | some (some _) => true
  | _ => false
theorem here_sl {i : Nat} {r : Env} : Opd.here (.sl i) r = hereB r[i]? := by
  unfold Opd.here hereB; rfl
theorem here_ex {m : SE} {r : Env} : Opd.here (.ex m) r = true := rfl
theorem hereB_some {x} : hereB (some (some x)) = true := rfl
theorem post_ex {s m x r} : Opd.post s (.ex m) x r = x := rfl
theorem post_sl {s i x r} : Opd.post s (.sl i) x r = view s r[i]? := rfl
theorem postD_ex {m x r} : Opd.postD (.ex m) x r = x := rfl
theorem postR_ex {m x r} : Opd.postR (.ex m) x r = x := rfl
def viewD : Option (Option Sl) → Option D
  | some (some (.d x)) => some x
  | some (some (.scr (.nums ns))) => some (.list (ns.map PyData.int))
  | _ => none
def viewR : Option (Option Sl) → Option D
  | some (some (.d x)) => some x
  | _ => none
theorem postD_sl {i x r} : Opd.postD (.sl i) x r = viewD r[i]? := by
  simp only [Opd.postD]
  unfold viewD
  rcases r[i]? with _ | (_ | (_ | _ | _)) <;> rfl
theorem postR_sl {i x r} : Opd.postR (.sl i) x r = viewR r[i]? := by
  simp only [Opd.postR]
  unfold viewR
  rcases r[i]? with _ | (_ | (_ | _ | _)) <;> rfl
theorem view_d {s x} : view s (some (some (.d x))) = some x := rfl
theorem view_own {s x} : view s (some (some (.own x))) = some (.list x) := rfl
theorem view_scr {x} : view true (some (some (.scr (.nums x)))) = some (.list (x.map PyData.int)) := rfl
theorem viewD_d {x} : viewD (some (some (.d x))) = some x := rfl
theorem viewD_scr {x} : viewD (some (some (.scr (.nums x)))) = some (.list (x.map PyData.int)) := rfl
theorem viewR_d {x} : viewR (some (some (.d x))) = some x := rfl
/-- one operand -/
def kOp1 (s : Bool) (o : Opd) (Q : KE) : Option D × Env → Prop := fun x => wo (o.post s x.1 x.2) fun d => Q (d, x.2)
def opd1 (s : Bool) (o : Opd) (r : Env) (Q : KE) : Prop := o.here r = true ∧ wo (o.pre r) (kOp1 s o Q)
theorem opd1_ex {s : Bool} {m : SE} {r : Env} {Q : KE} : opd1 s (.ex m) r Q ↔ wo (m r) Q := by
  unfold opd1
  rw [here_ex, wo_preEx]
  unfold wo kEx kOp1
  simp [post_ex, wo]
theorem opd1_sl {s : Bool} {i : Nat} {r : Env} {Q : KE} : opd1 s (.sl i) r Q ↔ wo (view s r[i]?) (fun d => Q (d, r)) := by
  unfold opd1
  rw [wo_preSl, here_sl]
  unfold kOp1
  simp only [post_sl]
  constructor
  · exact fun h => h.2
  · intro h
    refine ⟨?_, h⟩
    obtain ⟨d, e, _⟩ := h
    revert e
    rcases r[i]? with _ | (_ | x) <;> intro e
    · cases e
    · cases e
    · rfl
/-- a continuation for a value -/
def kV (Q : KE) (r : Env) : D → Prop := fun d => Q (d, r)
theorem kV_ap {Q r d} : kV Q r d ↔ Q (d, r) := Iff.rfl
theorem opd1_sl' {s : Bool} {i : Nat} {r : Env} {Q : KE} : opd1 s (.sl i) r Q ↔ wo (view s r[i]?) (kV Q r) := opd1_sl
def kTwo2 (s : Bool) (oa ob : Opd) (x : Option D) (Q : D × D × Env → Prop) : Option D × Env → Prop := fun y => wo (oa.post s x y.2) fun a => wo (ob.post s y.1 y.2) fun b => Q (a, b, y.2)
def kTwo1 (s : Bool) (oa ob : Opd) (Q : D × D × Env → Prop) : Option D × Env → Prop := fun x => ob.here x.2 = true ∧ wo (ob.pre x.2) (kTwo2 s oa ob x.1 Q)
theorem wo_two {s oa ob r Q} : wo (two s oa ob r) Q ↔ oa.here r = true ∧ wo (oa.pre r) (kTwo1 s oa ob Q) := by
  unfold two
  rw [wo_guard]
  refine and_congr Iff.rfl ?_
  unfold kTwo1
  cases h : oa.pre r with
  | none => simp [y7]
  | some p =>
    obtain ⟨x, r1⟩ := p
    simp only [y6, wo_guard]
    refine and_congr Iff.rfl ?_
    cases h2 : ob.pre r1 with
    | none => simp [y7]
    | some q =>
      obtain ⟨y, r2⟩ := q
      simp only [y6]
      unfold kTwo2
      simp only
      cases oa.post s x r2 <;> cases ob.post s y r2 <;> simp [y7, y6]
/-- the second operand, the first being known as a value -/
theorem two_ex {s : Bool} {m : SE} {ob : Opd} {r : Env} {Q} : wo (two s (.ex m) ob r) Q ↔ wo (m r) (fun x => opd1 s ob x.2 fun y => Q (x.1, y.1, y.2)) := by
  rw [wo_two, here_ex, wo_preEx]
  unfold kEx kTwo1 kTwo2 opd1 kOp1
  simp only [true_and, post_ex, y6]
def kT2 (s : Bool) (ob : Opd) (Q : D × D × Env → Prop) : KE := fun x => opd1 s ob x.2 fun y => Q (x.1, y.1, y.2)
def kT3 (Q : D × D × Env → Prop) (a : D) : KE := fun y => Q (a, y.1, y.2)
theorem kT2_ap {s ob Q a r} : kT2 s ob Q (a, r) ↔ opd1 s ob r (kT3 Q a) := Iff.rfl
theorem kT3_ap {Q a b r} : kT3 Q a (b, r) ↔ Q (a, b, r) := Iff.rfl
theorem two_ex' {s : Bool} {m : SE} {ob : Opd} {r : Env} {Q} : wo (two s (.ex m) ob r) Q ↔ wo (m r) (kT2 s ob Q) := two_ex
/-- the first is a slot: looked at behind the second -/
def kS2 (s : Bool) (i : Nat) (Q : D × D × Env → Prop) : KE := fun y => wo (view s y.2[i]?) fun a => Q (a, y.1, y.2)
def kS3 (Q : D × D × Env → Prop) (b : D) (r : Env) : D → Prop := fun a => Q (a, b, r)
theorem kS2_ap {s i Q b r} : kS2 s i Q (b, r) ↔ wo (view s r[i]?) (kS3 Q b r) := Iff.rfl
theorem kS3_ap {Q b r a} : kS3 Q b r a ↔ Q (a, b, r) := Iff.rfl
theorem two_sl {s : Bool} {i : Nat} {ob : Opd} {r : Env} {Q} : wo (two s (.sl i) ob r) Q ↔ hereB r[i]? = true ∧ opd1 s ob r (kS2 s i Q) := by
  rw [wo_two, here_sl, wo_preSl]
  refine and_congr Iff.rfl ?_
  unfold kTwo1 kTwo2 opd1 kOp1 kS2
  simp only [post_sl]
  refine and_congr Iff.rfl ?_
  constructor
  · rintro ⟨p, e, a, e1, b, e2, q⟩; exact ⟨p, e, b, e2, a, e1, q⟩
  · rintro ⟨p, e, b, e2, a, e1, q⟩; exact ⟨p, e, a, e1, b, e2, q⟩
def kBin (g : D → D → Option D) (Q : KE) : D × D × Env → Prop := fun x => wo (g x.1 x.2.1) fun z => Q (z, x.2.2)
theorem kBin_ap {g Q a b r} : kBin g Q (a, b, r) ↔ wo (g a b) (kV Q r) := Iff.rfl
theorem wo_mBin {s oa ob g r Q} : wo (mBin s oa ob g r) Q ↔ wo (two s oa ob r) (kBin g Q) := by
  unfold mBin kBin
  cases two s oa ob r with
  | none => simp [y7]
  | some p =>
    obtain ⟨x, y, r'⟩ := p
    simp only [y6]
    cases g x y <;> simp [y7, y6]
abbrev KB := Bool × Env → Prop
def kTb (Q : KB) : KE := fun x => ∃ b, x.1 = .bool b ∧ Q (b, x.2)
theorem kTb_ap {Q b r} : kTb Q (.bool b, r) ↔ Q (b, r) := ⟨fun ⟨c, e, h⟩ => by cases e; exact h, fun h => ⟨b, rfl, h⟩⟩
theorem kTb_no {Q : KB} {x r} (h : ∀ b, x ≠ PyData.bool b) : ¬ kTb Q (x, r) := fun ⟨b, e, _⟩ => h b e
theorem wo_tBin {s oa ob g r Q} : wo (tBin s oa ob g r) Q ↔ wo (two s oa ob r) (kBin g (kTb Q)) := by
  rw [← wo_mBin]
  unfold tBin
  rcases mBin s oa ob g r with _ | ⟨x, r⟩
  · simp [y7]
  · cases x <;> simp [y7, y6, kTb_ap, kTb_no]
theorem wo_tBool {m : SE} {r : Env} {Q : KB} : wo (tBool m r) Q ↔ wo (m r) (kTb Q) := by
  unfold tBool
  rcases m r with _ | ⟨x, r⟩
  · simp [y7]
  · cases x <;> simp [y7, y6, kTb_ap, kTb_no]
def kNot (Q : KB) : KB := fun x => Q (!x.1, x.2)
theorem kNot_ap {Q b r} : kNot Q (b, r) ↔ Q (!b, r) := Iff.rfl
theorem wo_mNot {m : ST} {r Q} : wo (mNot m r) Q ↔ wo (m r) (kNot Q) := by
  unfold mNot kNot
  rcases m r with _ | ⟨x, r⟩ <;> simp [y7, y6]
def kNotV (Q : KE) : KE := fun x => ∃ b, x.1 = .bool b ∧ Q (.bool (!b), x.2)
theorem kNotV_ap {Q b r} : kNotV Q (.bool b, r) ↔ Q (.bool (!b), r) := ⟨fun ⟨c, e, h⟩ => by cases e; exact h, fun h => ⟨b, rfl, h⟩⟩
theorem wo_mNotV {m : SE} {r Q} : wo (mNotV m r) Q ↔ wo (m r) (kNotV Q) := by
  unfold mNotV
  rcases m r with _ | ⟨x, r⟩
  · simp [y7]
  · cases x <;> simp only [y7, y6, kNotV_ap]
    all_goals exact ⟨False.elim, fun ⟨b, e, _⟩ => by cases e⟩
def kNeg (Q : KE) : KE := fun x => ∃ i, x.1 = .int i ∧ Q (.int (-i), x.2)
theorem kNeg_ap {Q i r} : kNeg Q (.int i, r) ↔ Q (.int (-i), r) := ⟨fun ⟨c, e, h⟩ => by cases e; exact h, fun h => ⟨i, rfl, h⟩⟩
theorem wo_mNeg {m : SE} {r Q} : wo (mNeg m r) Q ↔ wo (m r) (kNeg Q) := by
  unfold mNeg kNeg
  rcases m r with _ | ⟨x, r⟩
  · simp [y7]
  · cases x <;> simp [y7, y6]
def kAnd (n : SE) (Q : KE) : KE := fun x => ∃ b, x.1 = .bool b ∧ if b then wo (n x.2) Q else Q (.bool false, x.2)
theorem kAnd_ap {n Q b r} : kAnd n Q (.bool b, r) ↔ if b then wo (n r) Q else Q (.bool false, r) := ⟨fun ⟨c, e, h⟩ => by cases e; exact h, fun h => ⟨b, rfl, h⟩⟩
theorem wo_mAnd {m n : SE} {r Q} : wo (mAnd m n r) Q ↔ wo (m r) (kAnd n Q) := by
  unfold mAnd kAnd
  rcases m r with _ | ⟨x, r⟩
  · simp [y7]
  · rcases x with _ | (_ | _) | _ | _ | _ | _ | _ <;> simp [y7, y6]
def kOr (n : SE) (Q : KE) : KE := fun x => ∃ b, x.1 = .bool b ∧ if b then Q (.bool true, x.2) else wo (n x.2) Q
theorem kOr_ap {n Q b r} : kOr n Q (.bool b, r) ↔ if b then Q (.bool true, r) else wo (n r) Q := ⟨fun ⟨c, e, h⟩ => by cases e; exact h, fun h => ⟨b, rfl, h⟩⟩
theorem wo_mOr {m n : SE} {r Q} : wo (mOr m n r) Q ↔ wo (m r) (kOr n Q) := by
  unfold mOr kOr
  rcases m r with _ | ⟨x, r⟩
  · simp [y7]
  · rcases x with _ | (_ | _) | _ | _ | _ | _ | _ <;> simp [y7, y6]
def ktAnd (n : ST) (Q : KB) : KB := fun x => if x.1 then wo (n x.2) Q else Q (false, x.2)
theorem ktAnd_ap {n Q b r} : ktAnd n Q (b, r) ↔ if b then wo (n r) Q else Q (false, r) := Iff.rfl
theorem wo_tAndM {m n : ST} {r Q} : wo (tAndM m n r) Q ↔ wo (m r) (ktAnd n Q) := by
  unfold tAndM ktAnd
  rcases m r with _ | ⟨(_ | _), r⟩ <;> simp [y7, y6]
def ktOr (n : ST) (Q : KB) : KB := fun x => if x.1 then Q (true, x.2) else wo (n x.2) Q
theorem ktOr_ap {n Q b r} : ktOr n Q (b, r) ↔ if b then Q (true, r) else wo (n r) Q := Iff.rfl
theorem wo_tOrM {m n : ST} {r Q} : wo (tOrM m n r) Q ↔ wo (m r) (ktOr n Q) := by
  unfold tOrM ktOr
  rcases m r with _ | ⟨(_ | _), r⟩ <;> simp [y7, y6]
def kIf {α : Type} (m n : Env → Option α) (Q : α → Prop) : KB := fun x => if x.1 then wo (m x.2) Q else wo (n x.2) Q
theorem kIf_ap {α : Type} {m n : Env → Option α} {Q : α → Prop} {b r} : kIf m n Q (b, r) ↔ if b then wo (m r) Q else wo (n r) Q := Iff.rfl
theorem wo_mIf {c : ST} {m n : SE} {r Q} : wo (mIf c m n r) Q ↔ wo (c r) (kIf m n Q) := by
  unfold mIf kIf
  rcases c r with _ | ⟨(_ | _), r⟩ <;> simp [y7, y6]
theorem wo_sIf {c : ST} {m n : SS} {r Q} : wo (sIf c m n r) Q ↔ wo (c r) (kIf m n Q) := by
  unfold sIf kIf
  rcases c r with _ | ⟨(_ | _), r⟩ <;> simp [y7, y6]
def kTru (Q : KB) : KE := fun x => wo (truth x.1) fun b => Q (b, x.2)
def kB (Q : KB) (r : Env) : Bool → Prop := fun b => Q (b, r)
theorem kB_ap {Q r b} : kB Q r b ↔ Q (b, r) := Iff.rfl
theorem kTru_ap {Q d r} : kTru Q (d, r) ↔ wo (truth d) (kB Q r) := Iff.rfl
theorem wo_mTru {o : Opd} {r Q} : wo (mTru o r) Q ↔ opd1 true o r (kTru Q) := by
  unfold mTru opd1 kOp1 kTru
  rw [wo_guard]
  refine and_congr Iff.rfl ?_
  cases o.pre r with
  | none => simp [y7]
  | some p =>
    obtain ⟨x, r'⟩ := p
    simp only [y6]
    cases o.post true x r' with
    | none => simp [y7]
    | some d =>
      simp only [y6]
      cases truth d <;> simp [y7, y6]
def kIsi (f : D → Option Bool) (Q : KE) : KE := fun x => wo (f x.1) fun b => Q (.bool b, x.2)
def kVB (Q : KE) (r : Env) : Bool → Prop := fun b => Q (.bool b, r)
theorem kVB_ap {Q r b} : kVB Q r b ↔ Q (.bool b, r) := Iff.rfl
theorem kIsi_ap {f Q d r} : kIsi f Q (d, r) ↔ wo (f d) (kVB Q r) := Iff.rfl
theorem wo_mIsi {o : Opd} {f r Q} : wo (mIsi o f r) Q ↔ opd1 true o r (kIsi f Q) := by
  unfold mIsi opd1 kOp1 kIsi
  rw [wo_guard]
  refine and_congr Iff.rfl ?_
  cases o.pre r with
  | none => simp [y7]
  | some p =>
    obtain ⟨x, r'⟩ := p
    simp only [y6]
    cases o.post true x r' with
    | none => simp [y7]
    | some d =>
      simp only [y6]
      cases f d <;> simp [y7, y6]
def kCh (f g : Int → Int → Bool) (mb mc : SE) (Q : KE) : KE := fun x => ∃ i, x.1 = .int i ∧ wo (mb x.2) fun y => ∃ j, y.1 = .int j ∧ if f i j then wo (mc y.2) (fun z => ∃ k, z.1 = .int k ∧ Q (.bool (g j k), z.2)) else Q (.bool false, y.2)
def kCh2 (f g : Int → Int → Bool) (mc : SE) (Q : KE) (i : Int) : KE := fun y => ∃ j, y.1 = .int j ∧ if f i j then wo (mc y.2) (fun z => ∃ k, z.1 = .int k ∧ Q (.bool (g j k), z.2)) else Q (.bool false, y.2)
def kCh3 (g : Int → Int → Bool) (Q : KE) (j : Int) : KE := fun z => ∃ k, z.1 = .int k ∧ Q (.bool (g j k), z.2)
theorem kCh_ap {f g mb mc Q i r} : kCh f g mb mc Q (.int i, r) ↔ wo (mb r) (kCh2 f g mc Q i) := ⟨fun ⟨c, e, h⟩ => by cases e; exact h, fun h => ⟨i, rfl, h⟩⟩
theorem kCh2_ap {f g mc Q i j r} : kCh2 f g mc Q i (.int j, r) ↔ if f i j then wo (mc r) (kCh3 g Q j) else Q (.bool false, r) := ⟨fun ⟨c, e, h⟩ => by cases e; exact h, fun h => ⟨j, rfl, h⟩⟩
theorem kCh3_ap {g Q j k r} : kCh3 g Q j (.int k, r) ↔ Q (.bool (g j k), r) := ⟨fun ⟨c, e, h⟩ => by cases e; exact h, fun h => ⟨k, rfl, h⟩⟩
theorem wo_mCh {f g ma mb mc r Q} : wo (mCh f g ma mb mc r) Q ↔ wo (ma r) (kCh f g mb mc Q) := by
  unfold mCh kCh
  rcases ma r with _ | ⟨x, r1⟩
  · simp [y7]
  · cases x <;> simp only [y6, y7, false_and, exists_false, reduceCtorEq, PyData.int.injEq]
    rename_i i
    rcases mb r1 with _ | ⟨y, r2⟩
    · simp [y7]
    · cases y <;> simp only [y6, y7, false_and, exists_false, reduceCtorEq, PyData.int.injEq, exists_eq_left', and_false]
      rename_i j
      cases f i j
      · simp [y6]
      · simp only [if_true]
        rcases mc r2 with _ | ⟨z, r3⟩
        · simp [y7]
        · cases z <;> simp [y6, y7]
def kPart (Q : Option Int × Env → Prop) : KE := fun x => ∃ i, x.1 = .int i ∧ Q (some i, x.2)
theorem kPart_ap {Q i r} : kPart Q (.int i, r) ↔ Q (some i, r) := ⟨fun ⟨c, e, h⟩ => by cases e; exact h, fun h => ⟨i, rfl, h⟩⟩
theorem wo_partN {r Q} : wo (partM none r) Q ↔ Q (none, r) := y6
theorem wo_partS {m : SE} {r Q} : wo (partM (some m) r) Q ↔ wo (m r) (kPart Q) := by
  simp only [partM]
  unfold kPart
  rcases m r with _ | ⟨x, r⟩
  · simp [y7]
  · cases x <;> simp [y7, y6]
def kCut3 (oa : Opd) (x : Option D) (l : Option Int) (Q : KE) : Option Int × Env → Prop := fun y => wo (oa.post true x y.2) fun d => wo (fCut d l y.1) fun z => Q (z, y.2)
def kCut2 (oa : Opd) (hi : Option SE) (x : Option D) (Q : KE) : Option Int × Env → Prop := fun y => wo (partM hi y.2) (kCut3 oa x y.1 Q)
def kCut1 (oa : Opd) (lo hi : Option SE) (Q : KE) : Option D × Env → Prop := fun x => wo (partM lo x.2) (kCut2 oa hi x.1 Q)
def kCutF (l h : Option Int) (r : Env) (Q : KE) : D → Prop := fun d => wo (fCut d l h) (kV Q r)
theorem kCutF_ap {l h r Q d} : kCutF l h r Q d ↔ wo (fCut d l h) (kV Q r) := Iff.rfl
theorem kCut3_ap {oa x l Q h r} : kCut3 oa x l Q (h, r) ↔ wo (oa.post true x r) (kCutF l h r Q) := Iff.rfl
theorem kCut2_ap {oa hi x Q l r} : kCut2 oa hi x Q (l, r) ↔ wo (partM hi r) (kCut3 oa x l Q) := Iff.rfl
theorem kCut1_ap {oa lo hi Q x r} : kCut1 oa lo hi Q (x, r) ↔ wo (partM lo r) (kCut2 oa hi x Q) := Iff.rfl
theorem wo_mCut {oa lo hi r Q} : wo (mCut oa lo hi r) Q ↔ oa.here r = true ∧ wo (oa.pre r) (kCut1 oa lo hi Q) := by
  unfold mCut
  rw [wo_guard]
  refine and_congr Iff.rfl ?_
  unfold kCut1 kCut2 kCut3
  rcases oa.pre r with _ | ⟨x, r1⟩
  · simp [y7]
  · simp only [y6]
    rcases partM lo r1 with _ | ⟨l, r2⟩
    · simp [y7]
    · simp only [y6]
      rcases partM hi r2 with _ | ⟨h, r3⟩
      · simp [y7]
      · simp only [y6]
        cases oa.post true x r3 with
        | none => simp [y7]
        | some d =>
          simp only [y6]
          cases fCut d l h <;> simp [y7, y6]
def kRev (Q : KE) : KE := fun x => match x.1 with | .list ds => Q (.list ds.reverse, x.2) | .tuple ds => Q (.tuple ds.reverse, x.2) | _ => False
theorem kRev_l {Q ds r} : kRev Q (.list ds, r) ↔ Q (.list ds.reverse, r) := Iff.rfl
theorem kRev_t {Q ds r} : kRev Q (.tuple ds, r) ↔ Q (.tuple ds.reverse, r) := Iff.rfl
theorem wo_mRev2 {o : Opd} {r Q} : wo (mRev2 o r) Q ↔ opd1 true o r (kRev Q) := by
  unfold mRev2 opd1 kOp1 kRev
  rw [wo_guard]
  refine and_congr Iff.rfl ?_
  cases o.pre r with
  | none => simp [y7]
  | some p =>
    obtain ⟨x, r'⟩ := p
    simp only [y6]
    rcases o.post true x r' with _ | d
    · simp [y7]
    · cases d <;> simp [y7, y6]
abbrev KA := List D × Env → Prop
def kACons2 (d : D) (Q : KA) : KA := fun x => Q (d :: x.1, x.2)
def kACons (n : SA) (Q : KA) : KE := fun x => wo (n x.2) (kACons2 x.1 Q)
theorem kACons_ap {n Q d r} : kACons n Q (d, r) ↔ wo (n r) (kACons2 d Q) := Iff.rfl
theorem kACons2_ap {d Q ds r} : kACons2 d Q (ds, r) ↔ Q (d :: ds, r) := Iff.rfl
theorem wo_aNil {r Q} : wo (j7 r) Q ↔ Q ([], r) := y6
theorem wo_aCons {m n r Q} : wo (j6 m n r) Q ↔ wo (m r) (kACons n Q) := by
  unfold j6 kACons kACons2
  rcases m r with _ | ⟨x, r1⟩
  · simp [y7]
  · simp only [y6]
    rcases n r1 with _ | ⟨y, r2⟩ <;> simp [y7, y6]
def kTup (Q : KE) : KA := fun x => x.1.length ≤ sizeLine ∧ Q (.tuple x.1, x.2)
theorem kTup_ap {Q ds r} : kTup Q (ds, r) ↔ ds.length ≤ sizeLine ∧ Q (.tuple ds, r) := Iff.rfl
theorem wo_mTup {n r Q} : wo (mTup n r) Q ↔ wo (n r) (kTup Q) := by
  unfold mTup kTup
  rcases n r with _ | ⟨x, r1⟩
  · simp [y7]
  · simp [y6, wo_guard]
def kLst (Q : KA) : KA := fun x => x.1.length ≤ sizeLine ∧ Q x
theorem kLst_ap {Q ds r} : kLst Q (ds, r) ↔ ds.length ≤ sizeLine ∧ Q (ds, r) := Iff.rfl
theorem wo_nLst {n r Q} : wo (nLst n r) Q ↔ wo (n r) (kLst Q) := by
  unfold nLst kLst
  rcases n r with _ | ⟨x, r1⟩
  · simp [y7]
  · simp [y6, wo_guard]
def kListOf (Q : KE) : KA := fun x => Q (.list x.1, x.2)
theorem kListOf_ap {Q ds r} : kListOf Q (ds, r) ↔ Q (.list ds, r) := Iff.rfl
theorem wo_listOf {n r Q} : wo (DL.listOf n r) Q ↔ wo (n r) (kListOf Q) := by
  unfold DL.listOf kListOf
  rcases n r with _ | ⟨x, r1⟩ <;> simp [y7, y6]
def seqB (d : D) : Option (List D) := match d with | .list xs => some xs | .tuple xs => some xs | _ => none
theorem seqB_l {xs} : seqB (.list xs) = some xs := rfl
theorem seqB_t {xs} : seqB (.tuple xs) = some xs := rfl
def kSeqB (Q : KA) : KE := fun x => wo (seqB x.1) fun xs => Q (xs, x.2)
def kW {α : Type} (Q : α × Env → Prop) (r : Env) : α → Prop := fun a => Q (a, r)
theorem kW_ap {α : Type} {Q : α × Env → Prop} {r a} : kW Q r a ↔ Q (a, r) := Iff.rfl
theorem kSeqB_ap {Q d r} : kSeqB Q (d, r) ↔ wo (seqB d) (kW Q r) := Iff.rfl
theorem wo_nList {o : Opd} {r Q} : wo (nList o r) Q ↔ opd1 true o r (kSeqB Q) := by
  unfold nList opd1 kOp1 kSeqB
  rw [wo_guard]
  refine and_congr Iff.rfl ?_
  cases o.pre r with
  | none => simp [y7]
  | some p =>
    obtain ⟨x, r'⟩ := p
    simp only [y6]
    rcases o.post true x r' with _ | d
    · simp [y7]
    · cases d <;> simp [y7, y6, seqB]
abbrev KP := List (Option D) × Env → Prop
def kPre2 (x : Option D) (Q : KP) : KP := fun y => Q (x :: y.1, y.2)
def kPre (os : List Opd) (Q : KP) : Option D × Env → Prop := fun x => wo (preAll os x.2) (kPre2 x.1 Q)
theorem kPre_ap {os Q x r} : kPre os Q (x, r) ↔ wo (preAll os r) (kPre2 x Q) := Iff.rfl
theorem kPre2_ap {x Q xs r} : kPre2 x Q (xs, r) ↔ Q (x :: xs, r) := Iff.rfl
theorem wo_preNil {r Q} : wo (preAll [] r) Q ↔ Q ([], r) := y6
theorem wo_preCons {o os r Q} : wo (preAll (o :: os) r) Q ↔ o.here r = true ∧ wo (o.pre r) (kPre os Q) := by
  rw [preAll, wo_guard]
  refine and_congr Iff.rfl ?_
  unfold kPre kPre2
  rcases o.pre r with _ | ⟨x, r1⟩
  · simp [y7]
  · simp only [y6]
    rcases preAll os r1 with _ | ⟨y, r2⟩ <;> simp [y7, y6]
def kPost2 (d : D) (Q : List D → Prop) : List D → Prop := fun ds => Q (d :: ds)
def kPost (s : Bool) (os : List Opd) (xs : List (Option D)) (r : Env) (Q : List D → Prop) : D → Prop := fun d => wo (postAll s os xs r) (kPost2 d Q)
theorem kPost_ap {s os xs r Q d} : kPost s os xs r Q d ↔ wo (postAll s os xs r) (kPost2 d Q) := Iff.rfl
theorem kPost2_ap {d Q ds} : kPost2 d Q ds ↔ Q (d :: ds) := Iff.rfl
theorem wo_postNil {s r Q} : wo (postAll s [] [] r) Q ↔ Q [] := y6
theorem wo_postCons {s o os x xs r Q} : wo (postAll s (o :: os) (x :: xs) r) Q ↔ wo (o.post s x r) (kPost s os xs r Q) := by
  rw [postAll]
  unfold kPost kPost2
  rcases o.post s x r with _ | d
  · simp [y7]
  · simp only [y6]
    rcases postAll s os xs r with _ | y <;> simp [y7, y6]
def kCall2 (g : List D → Option D) (r : Env) (Q : KE) : List D → Prop := fun ds => wo (g ds) (kV Q r)
theorem kCall2_ap {g r Q ds} : kCall2 g r Q ds ↔ wo (g ds) (kV Q r) := Iff.rfl
def kCall (s : Bool) (os : List Opd) (g : List D → Option D) (Q : KE) : KP := fun x => wo (postAll s os x.1 x.2) (kCall2 g x.2 Q)
theorem kCall_ap {s os g Q xs r} : kCall s os g Q (xs, r) ↔ wo (postAll s os xs r) (kCall2 g r Q) := Iff.rfl
theorem wo_mCall {s os g r Q} : wo (mCall s os g r) Q ↔ wo (preAll os r) (kCall s os g Q) := by
  unfold mCall kCall kCall2
  rcases preAll os r with _ | ⟨x, r1⟩
  · simp [y7]
  · simp only [y6]
    rcases postAll s os x r1 with _ | ds
    · simp [y7]
    · simp only [y6]
      rcases g ds with _ | y <;> simp [y7, y6, kV]
def kArgs2 (a : Sl) (Q : List Sl → Prop) : List Sl → Prop := fun as => Q (a :: as)
def kArgs (os : List Opd) (xs : List (Option D)) (r : Env) (Q : List Sl → Prop) : Sl → Prop := fun a => wo (DL.args os xs r) (kArgs2 a Q)
theorem kArgs_ap {os xs r Q a} : kArgs os xs r Q a ↔ wo (DL.args os xs r) (kArgs2 a Q) := Iff.rfl
theorem kArgs2_ap {a Q as} : kArgs2 a Q as ↔ Q (a :: as) := Iff.rfl
theorem wo_argsNil {r Q} : wo (DL.args [] [] r) Q ↔ Q [] := y6
theorem wo_argsCons {o os x xs r Q} : wo (DL.args (o :: os) (x :: xs) r) Q ↔ wo (argSl o x r) (kArgs os xs r Q) := by
  rw [DL.args]
  unfold kArgs kArgs2
  rcases argSl o x r with _ | d
  · simp [y7]
  · simp only [y6]
    rcases DL.args os xs r with _ | y <;> simp [y7, y6]
theorem argSl_dc {kvs x r} : argSl (.dc kvs) x r = some (.scr (.dct kvs)) := rfl
theorem argSl_ex {m x r} : argSl (.ex m) (some x) r = some (.d x) := rfl
def slB' : Option (Option Sl) → Option Sl
  | some (some y) => some y
  | _ => none
theorem slB_some {y} : slB' (some (some y)) = some y := rfl
theorem argSl_sl {i x r} : argSl (.sl i) x r = slB' r[i]? := by
  simp only [argSl]; unfold slB'; rcases r[i]? with _ | (_ | _) <;> rfl
def kFn3 {α : Type} (os : List Opd) (r : Env) (Q : α × Env → Prop) : α × List Sl → Prop := fun x => Q (x.1, back os x.2 r)
theorem kFn3_ap {α : Type} {os r Q} {d : α} {as} : kFn3 os r Q (d, as) ↔ Q (d, back os as r) := Iff.rfl
def kFn2 {α : Type} (F : List Sl → Option (α × List Sl)) (os : List Opd) (r : Env) (Q : α × Env → Prop) : List Sl → Prop := fun as => (given os as).Nodup ∧ wo (F as) (kFn3 os r Q)
theorem kFn2_ap {α : Type} {F : List Sl → Option (α × List Sl)} {os r Q as} : kFn2 F os r Q as ↔ (given os as).Nodup ∧ wo (F as) (kFn3 os r Q) := Iff.rfl
def kFn {α : Type} (F : List Sl → Option (α × List Sl)) (os : List Opd) (Q : α × Env → Prop) : KP := fun x => wo (DL.args os x.1 x.2) (kFn2 F os x.2 Q)
theorem kFn_ap {α : Type} {F : List Sl → Option (α × List Sl)} {os Q xs r} : kFn F os Q (xs, r) ↔ wo (DL.args os xs r) (kFn2 F os r Q) := Iff.rfl
theorem wo_mFn {F : FSem} {os r Q} : wo (mFn F os r) Q ↔ wo (preAll os r) (kFn F os Q) := by
  unfold mFn kFn kFn2 kFn3
  rcases preAll os r with _ | ⟨x, r1⟩
  · simp [y7]
  · simp only [y6]
    rcases DL.args os x r1 with _ | as
    · simp [y7]
    · simp only [y6, wo_guard]
      refine and_congr Iff.rfl ?_
      rcases F as with _ | ⟨y, as'⟩ <;> simp [y7, y6]
theorem wo_nFn {F : FNew} {os r Q} : wo (nFn F os r) Q ↔ wo (preAll os r) (kFn F os Q) := by
  unfold nFn kFn kFn2 kFn3
  rcases preAll os r with _ | ⟨x, r1⟩
  · simp [y7]
  · simp only [y6]
    rcases DL.args os x r1 with _ | as
    · simp [y7]
    · simp only [y6, wo_guard]
      refine and_congr Iff.rfl ?_
      rcases F as with _ | ⟨y, as'⟩ <;> simp [y7, y6]
abbrev KS := Fl × Env → Prop
def kSeq (n : SS) (Q : KS) : KS := fun x => match x.1 with | .nx => wo (n x.2) Q | f => Q (f, x.2)
theorem kSeq_nx {n Q r} : kSeq n Q (.nx, r) ↔ wo (n r) Q := Iff.rfl
theorem kSeq_ret {n Q d r} : kSeq n Q (.ret d, r) ↔ Q (.ret d, r) := Iff.rfl
theorem kSeq_retN {n Q d r} : kSeq n Q (.retN d, r) ↔ Q (.retN d, r) := Iff.rfl
theorem kSeq_bk {n Q r} : kSeq n Q (.bk, r) ↔ Q (.bk, r) := Iff.rfl
theorem kSeq_ct {n Q r} : kSeq n Q (.ct, r) ↔ Q (.ct, r) := Iff.rfl
theorem wo_sSeq {m n r Q} : wo (q6 m n r) Q ↔ wo (m r) (kSeq n Q) := by
  unfold q6 kSeq
  rcases m r with _ | ⟨f, r1⟩
  · simp [y7]
  · cases f <;> simp [y6]
theorem wo_sNext {r Q} : wo (sNext r) Q ↔ Q (.nx, r) := y6
def kExpr (Q : KS) : KE := fun x => Q (.nx, x.2)
theorem kExpr_ap {Q d r} : kExpr Q (d, r) ↔ Q (.nx, r) := Iff.rfl
theorem wo_sExpr {m r Q} : wo (sExpr m r) Q ↔ wo (m r) (kExpr Q) := by
  unfold sExpr kExpr
  rcases m r with _ | ⟨f, r1⟩ <;> simp [y7, y6]
def kRet (Q : KS) : KE := fun x => Q (.ret x.1, x.2)
theorem kRet_ap {Q d r} : kRet Q (d, r) ↔ Q (.ret d, r) := Iff.rfl
theorem wo_sRet {m r Q} : wo (sRet m r) Q ↔ wo (m r) (kRet Q) := by
  unfold sRet kRet
  rcases m r with _ | ⟨f, r1⟩ <;> simp [y7, y6]
def kRetN (Q : KS) : KA := fun x => Q (.retN x.1, x.2)
theorem kRetN_ap {Q d r} : kRetN Q (d, r) ↔ Q (.retN d, r) := Iff.rfl
theorem wo_sRetN {m r Q} : wo (sRetN m r) Q ↔ wo (m r) (kRetN Q) := by
  unfold sRetN kRetN
  rcases m r with _ | ⟨f, r1⟩ <;> simp [y7, y6]
def kRetO (i : Nat) (r : Env) (Q : KS) : List D → Prop := fun xs => Q (.retN xs, r.set i none)
theorem kRetO_ap {i r Q xs} : kRetO i r Q xs ↔ Q (.retN xs, r.set i none) := Iff.rfl
def ownB : Option (Option Sl) → Option (List D)
  | some (some (.own xs)) => some xs
  | _ => none
theorem wo_sRetO {i r Q} : wo (sRetO i r) Q ↔ wo (ownB r[i]?) (kRetO i r Q) := by
  unfold sRetO kRetO ownB
  rcases r[i]? with _ | (_ | (_ | _ | _)) <;> simp [y7, y6]
def kSet (i : Nat) (Q : KS) : KE := fun x => i < x.2.length ∧ Q (.nx, x.2.set i (some (.d x.1)))
theorem kSet_ap {i Q d r} : kSet i Q (d, r) ↔ i < r.length ∧ Q (.nx, r.set i (some (.d d))) := Iff.rfl
theorem wo_sSet {i m r Q} : wo (sSet i m r) Q ↔ wo (m r) (kSet i Q) := by
  unfold sSet kSet
  rcases m r with _ | ⟨f, r1⟩ <;> simp [y7, y6, wo_guard]
def kOwn (i : Nat) (Q : KS) : KA := fun x => i < x.2.length ∧ Q (.nx, x.2.set i (some (.own x.1)))
theorem kOwn_ap {i Q d r} : kOwn i Q (d, r) ↔ i < r.length ∧ Q (.nx, r.set i (some (.own d))) := Iff.rfl
theorem wo_sOwn {i m r Q} : wo (sOwn i m r) Q ↔ wo (m r) (kOwn i Q) := by
  unfold sOwn kOwn
  rcases m r with _ | ⟨f, r1⟩ <;> simp [y7, y6, wo_guard]
def kN (Q : KS) : Env → Prop := fun r => Q (.nx, r)
theorem kN_ap {Q r} : kN Q r ↔ Q (.nx, r) := Iff.rfl
def kUnp (t : Tg) (Q : KS) : KE := fun x => wo (t.bind x.1 x.2) (kN Q)
theorem kUnp_ap {t Q d r} : kUnp t Q (d, r) ↔ wo (t.bind d r) (kN Q) := Iff.rfl
theorem wo_sUnp {t m r Q} : wo (sUnp t m r) Q ↔ wo (m r) (kUnp t Q) := by
  unfold sUnp kUnp kN
  rcases m r with _ | ⟨f, r1⟩
  · simp [y7]
  · simp only [y6]
    rcases t.bind f r1 with _ | r2 <;> simp [y7, y6]
def kPar (is : List Nat) (Q : KS) : List Sl × Env → Prop := fun x => (decide (is.length = x.1.length) && is.all (fun i => decide (i < x.2.length))) = true ∧ Q (.nx, setsE is x.1 x.2)
theorem kPar_ap {is Q sl r} : kPar is Q (sl, r) ↔ (decide (is.length = sl.length) && is.all (fun i => decide (i < r.length))) = true ∧ Q (.nx, setsE is sl r) := Iff.rfl
theorem wo_sPar {is as r Q} : wo (sPar is as r) Q ↔ wo (avs as r) (kPar is Q) := by
  unfold sPar kPar
  rcases avs as r with _ | ⟨sl, r1⟩
  · simp [y7]
  · simp only [y6, wo_guard]
def kAvs2 (a : Sl) (Q : List Sl × Env → Prop) : List Sl × Env → Prop := fun x => Q (a :: x.1, x.2)
theorem kAvs2_ap {a Q sl r} : kAvs2 a Q (sl, r) ↔ Q (a :: sl, r) := Iff.rfl
def kAvD (as : List Av) (Q : List Sl × Env → Prop) : KE := fun x => wo (avs as x.2) (kAvs2 (.d x.1) Q)
theorem kAvD_ap {as Q d r} : kAvD as Q (d, r) ↔ wo (avs as r) (kAvs2 (.d d) Q) := Iff.rfl
def kAvN (as : List Av) (Q : List Sl × Env → Prop) : KA := fun x => wo (avs as x.2) (kAvs2 (.own x.1) Q)
theorem kAvN_ap {as Q d r} : kAvN as Q (d, r) ↔ wo (avs as r) (kAvs2 (.own d) Q) := Iff.rfl
theorem wo_avNil {r Q} : wo (avs [] r) Q ↔ Q ([], r) := y6
theorem wo_avD {m as r Q} : wo (avs (.d m :: as) r) Q ↔ wo (m r) (kAvD as Q) := by
  rw [avs]
  unfold kAvD kAvs2
  rcases m r with _ | ⟨f, r1⟩
  · simp [y7]
  · simp only [y6]
    rcases avs as r1 with _ | ⟨sl, r2⟩ <;> simp [y7, y6]
theorem wo_avN {m as r Q} : wo (avs (.n m :: as) r) Q ↔ wo (m r) (kAvN as Q) := by
  rw [avs]
  unfold kAvN kAvs2
  rcases m r with _ | ⟨f, r1⟩
  · simp [y7]
  · simp only [y6]
    rcases avs as r1 with _ | ⟨sl, r2⟩ <;> simp [y7, y6]
theorem ownB_none : ownB (some none) = none := rfl
theorem ownB_d {x} : ownB (some (some (.d x))) = none := rfl
theorem ownB_scr {x} : ownB (some (some (.scr x))) = none := rfl
theorem ownB_own {xs} : ownB (some (some (.own xs))) = some xs := rfl
def datB : Option (Option Sl) → Option D
  | some (some (.d x)) => some x
  | _ => none
theorem datB_d {xs} : datB (some (some (.d xs))) = some xs := rfl
theorem notOwn_eq {r i} : notOwn r i = (ownB r[i]?).isNone := by
  unfold notOwn ownB
  rcases r[i]? with _ | (_ | (_ | _ | _)) <;> rfl
def kPut2 (i : Nat) (y : D) (Q : KS) : KE := fun x => ∃ n, x.1 = .int n ∧ wo (ownB x.2[i]?) fun xs => wo (ixN xs.length n) fun j => Q (.nx, x.2.set i (some (.own (xs.set j y))))
def kPut4 (i : Nat) (y : D) (xs : List D) (r : Env) (Q : KS) : Nat → Prop := fun j => Q (.nx, r.set i (some (.own (xs.set j y))))
theorem kPut4_ap {i y xs r Q j} : kPut4 i y xs r Q j ↔ Q (.nx, r.set i (some (.own (xs.set j y)))) := Iff.rfl
def kPut3 (i : Nat) (y : D) (n : Int) (r : Env) (Q : KS) : List D → Prop := fun xs => wo (ixN xs.length n) (kPut4 i y xs r Q)
theorem kPut3_ap {i y n r Q xs} : kPut3 i y n r Q xs ↔ wo (ixN xs.length n) (kPut4 i y xs r Q) := Iff.rfl
theorem kPut2_ap {i y Q n r} : kPut2 i y Q (.int n, r) ↔ wo (ownB r[i]?) (kPut3 i y n r Q) := ⟨fun ⟨c, e, h⟩ => by cases e; exact h, fun h => ⟨n, rfl, h⟩⟩
def kPut (i : Nat) (k : SE) (Q : KS) : KE := fun x => notOwn x.2 i = false ∧ wo (k x.2) (kPut2 i x.1 Q)
theorem kPut_ap {i k Q d r} : kPut i k Q (d, r) ↔ notOwn r i = false ∧ wo (k r) (kPut2 i d Q) := Iff.rfl
theorem wo_ngd {α : Type} {c : Prop} [Decidable c] {m : Option α} {Q : α → Prop} : wo (if c then none else m) Q ↔ ¬ c ∧ wo m Q := by
  by_cases h : c
  · simp [h, y7]
  · simp [h]
theorem wo_sPut {i k m r Q} : wo (sPut i k m r) Q ↔ wo (m r) (kPut i k Q) := by
  unfold sPut kPut kPut2
  rcases m r with _ | ⟨y, r1⟩
  · simp [y7]
  · simp only [y6, wo_ngd, Bool.not_eq_true]
    refine and_congr Iff.rfl ?_
    rcases k r1 with _ | ⟨n, r2⟩
    · simp [y7]
    · cases n <;> simp only [y6, y7, reduceCtorEq, false_and, exists_false, PyData.int.injEq, exists_eq_left']
      unfold ownB
      rcases r2[i]? with _ | (_ | (_ | xs | _)) <;> simp only [y6, y7]
      rename_i n
      rcases ixN xs.length n with _ | j <;> simp [y7, y6]
def kApp2 (i : Nat) (y : D) (r : Env) (Q : KE) : List D → Prop := fun xs => xs.length < sizeLine ∧ Q (.none, r.set i (some (.own (xs ++ [y]))))
theorem kApp2_ap {i y r Q xs} : kApp2 i y r Q xs ↔ xs.length < sizeLine ∧ Q (.none, r.set i (some (.own (xs ++ [y])))) := Iff.rfl
def kApp (i : Nat) (Q : KE) : KE := fun x => wo (ownB x.2[i]?) (kApp2 i x.1 x.2 Q)
theorem kApp_ap {i Q d r} : kApp i Q (d, r) ↔ wo (ownB r[i]?) (kApp2 i d r Q) := Iff.rfl
theorem wo_mAppend {i m r Q} : wo (mAppend i m r) Q ↔ notOwn r i = false ∧ wo (m r) (kApp i Q) := by
  unfold mAppend kApp kApp2
  rw [wo_ngd, Bool.not_eq_true]
  refine and_congr Iff.rfl ?_
  rcases m r with _ | ⟨y, r1⟩
  · simp [y7]
  · simp only [y6]
    unfold ownB
    rcases r1[i]? with _ | (_ | (_ | xs | _)) <;> simp only [y6, y7, wo_guard]
def kPop2 (i : Nat) (k : Int) (r : Env) (Q : KE) : List D → Prop := fun xs => wo (ixN xs.length k) fun j => wo xs[j]? fun y => xs.length < 1000000 ∧ Q (y, r.set i (some (.own (xs.eraseIdx j))))
def kPop4 (i j : Nat) (xs : List D) (r : Env) (Q : KE) : D → Prop := fun y => xs.length < 1000000 ∧ Q (y, r.set i (some (.own (xs.eraseIdx j))))
theorem kPop4_ap {i j xs r Q y} : kPop4 i j xs r Q y ↔ xs.length < 1000000 ∧ Q (y, r.set i (some (.own (xs.eraseIdx j)))) := Iff.rfl
def kPop3 (i : Nat) (xs : List D) (r : Env) (Q : KE) : Nat → Prop := fun j => wo xs[j]? (kPop4 i j xs r Q)
theorem kPop3_ap {i xs r Q j} : kPop3 i xs r Q j ↔ wo xs[j]? (kPop4 i j xs r Q) := Iff.rfl
theorem kPop2_ap {i k r Q xs} : kPop2 i k r Q xs ↔ wo (ixN xs.length k) (kPop3 i xs r Q) := Iff.rfl
def kPop (i : Nat) (Q : KE) : KE := fun x => ∃ k, x.1 = .int k ∧ wo (ownB x.2[i]?) (kPop2 i k x.2 Q)
theorem kPop_ap {i Q k r} : kPop i Q (.int k, r) ↔ wo (ownB r[i]?) (kPop2 i k r Q) := ⟨fun ⟨c, e, h⟩ => by cases e; exact h, fun h => ⟨k, rfl, h⟩⟩
theorem wo_mPop {i m r Q} : wo (mPop i m r) Q ↔ notOwn r i = false ∧ wo (m r) (kPop i Q) := by
  unfold mPop kPop kPop2
  rw [wo_ngd, Bool.not_eq_true]
  refine and_congr Iff.rfl ?_
  rcases m r with _ | ⟨y, r1⟩
  · simp [y7]
  · cases y <;> simp only [y6, y7, reduceCtorEq, false_and, exists_false, PyData.int.injEq, exists_eq_left']
    rename_i k
    unfold ownB
    rcases r1[i]? with _ | (_ | (_ | xs | _)) <;> simp only [y6, y7]
    rcases ixN xs.length k with _ | j
    · simp [y7]
    · simp only [y6]
      rcases xs[j]? with _ | y
      · simp [y7]
      · simp only [y6, wo_guard]
def kIns3 (i : Nat) (k : Int) (y : D) (r : Env) (Q : KE) : List D → Prop := fun xs => (0 ≤ k ∧ k < 1000000 ∧ xs.length < sizeLine) ∧ Q (.none, r.set i (some (.own (xs.take k.toNat ++ [y] ++ xs.drop k.toNat))))
theorem kIns3_ap {i k y r Q xs} : kIns3 i k y r Q xs ↔ (0 ≤ k ∧ k < 1000000 ∧ xs.length < sizeLine) ∧ Q (.none, r.set i (some (.own (xs.take k.toNat ++ [y] ++ xs.drop k.toNat)))) := Iff.rfl
def kIns2 (i : Nat) (k : Int) (Q : KE) : KE := fun x => wo (ownB x.2[i]?) (kIns3 i k x.1 x.2 Q)
theorem kIns2_ap {i k Q y r} : kIns2 i k Q (y, r) ↔ wo (ownB r[i]?) (kIns3 i k y r Q) := Iff.rfl
def kIns (i : Nat) (n : SE) (Q : KE) : KE := fun x => ∃ k, x.1 = .int k ∧ wo (n x.2) (kIns2 i k Q)
theorem kIns_ap {i n Q k r} : kIns i n Q (.int k, r) ↔ wo (n r) (kIns2 i k Q) := ⟨fun ⟨c, e, h⟩ => by cases e; exact h, fun h => ⟨k, rfl, h⟩⟩
theorem wo_mInsert {i m n r Q} : wo (mInsert i m n r) Q ↔ notOwn r i = false ∧ wo (m r) (kIns i n Q) := by
  unfold mInsert kIns kIns2 kIns3
  rw [wo_ngd, Bool.not_eq_true]
  refine and_congr Iff.rfl ?_
  rcases m r with _ | ⟨y, r1⟩
  · simp [y7]
  · cases y <;> simp only [y6, y7, reduceCtorEq, false_and, exists_false, PyData.int.injEq, exists_eq_left']
    rename_i k
    rcases n r1 with _ | ⟨z, r2⟩
    · simp [y7]
    · simp only [y6]
      unfold ownB
      rcases r2[i]? with _ | (_ | (_ | xs | _)) <;> simp only [y6, y7, wo_guard]
def kAug2 (i : Nat) (y : D) (g : D → D → Option D) (r : Env) (Q : KS) : D → Prop := fun x => wo (g x y) fun z => Q (.nx, r.set i (some (.d z)))
def kAug3 (i : Nat) (r : Env) (Q : KS) : D → Prop := fun z => Q (.nx, r.set i (some (.d z)))
theorem kAug3_ap {i r Q z} : kAug3 i r Q z ↔ Q (.nx, r.set i (some (.d z))) := Iff.rfl
theorem kAug2_ap {i y g r Q x} : kAug2 i y g r Q x ↔ wo (g x y) (kAug3 i r Q) := Iff.rfl
def kAug (i : Nat) (g : D → D → Option D) (Q : KS) : KE := fun x => wo (datB x.2[i]?) (kAug2 i x.1 g x.2 Q)
theorem kAug_ap {i g Q y r} : kAug i g Q (y, r) ↔ wo (datB r[i]?) (kAug2 i y g r Q) := Iff.rfl
theorem wo_sAug {i m g r Q} : wo (sAug i m g r) Q ↔ (datB r[i]?).isSome = true ∧ wo (m r) (kAug i g Q) := by
  unfold sAug kAug kAug2
  have e : ∀ o : Option (Option Sl), datB o = (match o with | some (some (.d x)) => some x | _ => none) := fun o => rfl
  rw [e]
  rcases r[i]? with _ | (_ | (x | _ | _)) <;> simp only [y7, Option.isSome_none, Option.isSome_some, false_and, true_and, reduceCtorEq, Bool.false_eq_true]
  rcases m r with _ | ⟨y, r1⟩
  · simp [y7]
  · simp only [y6, e]
    rcases r1[i]? with _ | (_ | (x | _ | _)) <;> simp only [y7, y6]
    rcases g x y with _ | z <;> simp [y7, y6]
def kExt2 (i : Nat) (ys : List D) (r : Env) (Q : KE) : List D → Prop := fun xs => xs.length + ys.length ≤ sizeLine ∧ Q (.none, r.set i (some (.own (xs ++ ys))))
theorem kExt2_ap {i ys r Q xs} : kExt2 i ys r Q xs ↔ xs.length + ys.length ≤ sizeLine ∧ Q (.none, r.set i (some (.own (xs ++ ys)))) := Iff.rfl
def kExt (i : Nat) (Q : KE) : KE := fun x => ∃ ys, x.1 = .list ys ∧ wo (ownB x.2[i]?) (kExt2 i ys x.2 Q)
theorem kExt_ap {i Q ys r} : kExt i Q (.list ys, r) ↔ wo (ownB r[i]?) (kExt2 i ys r Q) := ⟨fun ⟨c, e, h⟩ => by cases e; exact h, fun h => ⟨ys, rfl, h⟩⟩
theorem wo_mExtend {i m r Q} : wo (mExtend i m r) Q ↔ notOwn r i = false ∧ wo (m r) (kExt i Q) := by
  unfold mExtend kExt kExt2
  rw [wo_ngd, Bool.not_eq_true]
  refine and_congr Iff.rfl ?_
  rcases m r with _ | ⟨y, r1⟩
  · simp [y7]
  · cases y <;> simp only [y6, y7, reduceCtorEq, false_and, exists_false, PyData.list.injEq, exists_eq_left']
    unfold ownB
    rcases r1[i]? with _ | (_ | (_ | xs | _)) <;> simp only [y6, y7, wo_guard]
def kPe3 (i : Nat) (y : D) (xs : List D) (r : Env) (Q : Env → Prop) : Nat → Prop := fun j => Q (r.set i (some (.own (xs.set j y))))
theorem kPe3_ap {i y xs r Q j} : kPe3 i y xs r Q j ↔ Q (r.set i (some (.own (xs.set j y)))) := Iff.rfl
def kPe2 (i : Nat) (y : D) (n : Int) (r : Env) (Q : Env → Prop) : List D → Prop := fun xs => wo (ixN xs.length n) (kPe3 i y xs r Q)
theorem kPe2_ap {i y n r Q xs} : kPe2 i y n r Q xs ↔ wo (ixN xs.length n) (kPe3 i y xs r Q) := Iff.rfl
def kPe (i : Nat) (y : D) (Q : Env → Prop) : KE := fun x => ∃ n, x.1 = .int n ∧ wo (ownB x.2[i]?) (kPe2 i y n x.2 Q)
theorem kPe_ap {i y Q n r} : kPe i y Q (.int n, r) ↔ wo (ownB r[i]?) (kPe2 i y n r Q) := ⟨fun ⟨c, e, h⟩ => by cases e; exact h, fun h => ⟨n, rfl, h⟩⟩
theorem wo_putE {i k y r Q} : wo (putE i k y r) Q ↔ notOwn r i = false ∧ wo (k r) (kPe i y Q) := by
  unfold putE kPe kPe2 kPe3
  rw [wo_ngd, Bool.not_eq_true]
  refine and_congr Iff.rfl ?_
  rcases k r with _ | ⟨n, r2⟩
  · simp [y7]
  · cases n <;> simp only [y6, y7, reduceCtorEq, false_and, exists_false, PyData.int.injEq, exists_eq_left']
    rename_i n
    unfold ownB
    rcases r2[i]? with _ | (_ | (_ | xs | _)) <;> simp only [y6, y7]
    rcases ixN xs.length n with _ | j <;> simp [y7, y6]
def kP3 (i : Nat) (k : SE) (y : D) (Q : KS) : Env → Prop := fun r => wo (putE i k y r) (kN Q)
theorem kP3_ap {i k y Q r} : kP3 i k y Q r ↔ wo (putE i k y r) (kN Q) := Iff.rfl
def kP2 (i : Nat) (k1 k2 : SE) (Q : KS) : KE := fun x => ∃ y1 y2, x.1 = .tuple [y1, y2] ∧ wo (putE i k1 y1 x.2) (kP3 i k2 y2 Q)
theorem kP2_ap {i k1 k2 Q y1 y2 r} : kP2 i k1 k2 Q (.tuple [y1, y2], r) ↔ wo (putE i k1 y1 r) (kP3 i k2 y2 Q) := ⟨fun ⟨c, d, e, h⟩ => by cases e; exact h, fun h => ⟨y1, y2, rfl, h⟩⟩
theorem wo_sPut2 {i k1 k2 m r Q} : wo (sPut2 i k1 k2 m r) Q ↔ wo (m r) (kP2 i k1 k2 Q) := by
  unfold sPut2
  rcases m r with _ | ⟨y, r1⟩
  · simp [y7]
  · rcases y with _ | _ | _ | _ | _ | ys | _ <;> try simp [y7, y6, kP2]
    rcases ys with _ | ⟨y1, _ | ⟨y2, _ | ⟨y3, ys⟩⟩⟩
    · simp [y7]
    · simp [y7]
    · have h : (∃ a b, (y1 = a ∧ y2 = b) ∧ wo (putE i k1 a r1) (kP3 i k2 b Q)) ↔ wo (putE i k1 y1 r1) (kP3 i k2 y2 Q) := ⟨fun ⟨a, b, ⟨e1, e2⟩, h⟩ => by subst e1; subst e2; exact h, fun h => ⟨y1, y2, ⟨rfl, rfl⟩, h⟩⟩
      simp only [List.cons.injEq, and_true]
      rw [h]
      unfold kP3 kN
      rcases putE i k1 y1 r1 with _ | r2
      · simp [y7]
      · simp only [y6]
        rcases putE i k2 y2 r2 with _ | r3 <;> simp [y7, y6]
    · simp [y7]
def kFnS (F : FSem) (o1 o2 : Opd) (Q : KE) : KP := fun x => ∃ y1 y2, x.1 = [y1, y2] ∧ wo (DL.args [o2, o1] [y2, y1] x.2) (kFn2 F [o2, o1] x.2 Q)
theorem kFnS_ap {F o1 o2 Q y1 y2 r} : kFnS F o1 o2 Q ([y1, y2], r) ↔ wo (DL.args [o2, o1] [y2, y1] r) (kFn2 F [o2, o1] r Q) := ⟨fun ⟨c, d, e, h⟩ => by cases e; exact h, fun h => ⟨y1, y2, rfl, h⟩⟩
theorem wo_mFnS {F o1 o2 r Q} : wo (mFnS F o1 o2 r) Q ↔ wo (preAll [o1, o2] r) (kFnS F o1 o2 Q) := by
  unfold mFnS kFnS kFn2 kFn3
  rcases preAll [o1, o2] r with _ | ⟨xs, r1⟩
  · simp [y7]
  · rcases xs with _ | ⟨y1, _ | ⟨y2, _ | ⟨y3, ys⟩⟩⟩ <;> try simp [y7, y6]
    have h : ∀ {P : Option D → Option D → Prop}, (∃ a b, (y1 = a ∧ y2 = b) ∧ P a b) ↔ P y1 y2 := ⟨fun ⟨a, b, ⟨e1, e2⟩, h⟩ => by subst e1; subst e2; exact h, fun h => ⟨y1, y2, ⟨rfl, rfl⟩, h⟩⟩
    rw [h]
    rcases DL.args [o2, o1] [y2, y1] r1 with _ | as
    · simp [y7]
    · simp only [y6, wo_guard]
      refine and_congr Iff.rfl ?_
      rcases F as with _ | ⟨y, as'⟩ <;> simp [y7, y6]
def kDix (kvs : List (Str × D)) (Q : KE) : KE := fun x => ∃ z, x.1 = .str z ∧ wo (lookS z kvs) (kV Q x.2)
theorem kDix_ap {kvs Q z r} : kDix kvs Q (.str z, r) ↔ wo (lookS z kvs) (kV Q r) := ⟨fun ⟨c, e, h⟩ => by cases e; exact h, fun h => ⟨z, rfl, h⟩⟩
theorem wo_mDix {kvs m r Q} : wo (mDix kvs m r) Q ↔ wo (m r) (kDix kvs Q) := by
  unfold mDix kDix kV
  rcases m r with _ | ⟨y, r1⟩
  · simp [y7]
  · cases y <;> simp only [y6, y7, reduceCtorEq, false_and, exists_false, PyData.str.injEq, exists_eq_left']
    rename_i z
    rcases lookS z kvs with _ | d <;> simp [y7, y6]
def kDGet2 (z : Str) (r : Env) (Q : KE) : List (Str × D) → Prop := fun kvs => Q ((lookS z kvs).getD .none, r)
theorem kDGet2_ap {z r Q kvs} : kDGet2 z r Q kvs ↔ Q ((lookS z kvs).getD .none, r) := Iff.rfl
def kDGet (i : Nat) (Q : KE) : KE := fun x => ∃ z, x.1 = .str z ∧ wo (dctB x.2[i]?) (kDGet2 z x.2 Q)
theorem kDGet_ap {i Q z r} : kDGet i Q (.str z, r) ↔ wo (dctB r[i]?) (kDGet2 z r Q) := ⟨fun ⟨c, e, h⟩ => by cases e; exact h, fun h => ⟨z, rfl, h⟩⟩
theorem dctB_dct {kvs} : dctB (some (some (.scr (.dct kvs)))) = some kvs := rfl
theorem wo_mDGet {i m r Q} : wo (mDGet i m r) Q ↔ (dctB r[i]?).isSome = true ∧ wo (m r) (kDGet i Q) := by
  unfold mDGet kDGet kDGet2
  rcases dctB r[i]? with _ | kvs
  · simp [y7]
  · simp only [Option.isSome_some, true_and]
    rcases m r with _ | ⟨y, r1⟩
    · simp [y7]
    · cases y <;> simp only [y6, y7, reduceCtorEq, false_and, exists_false, PyData.str.injEq, exists_eq_left']
      rcases dctB r1[i]? with _ | kvs' <;> simp [y7, y6]
def kKGet (kvs : List (Str × D)) (dflt : D) (Q : KE) : KE := fun x => ∃ z, x.1 = .str z ∧ Q ((lookS z kvs).getD dflt, x.2)
theorem kKGet_ap {kvs dflt Q z r} : kKGet kvs dflt Q (.str z, r) ↔ Q ((lookS z kvs).getD dflt, r) := ⟨fun ⟨c, e, h⟩ => by cases e; exact h, fun h => ⟨z, rfl, h⟩⟩
theorem wo_mKGet {kvs m dflt r Q} : wo (mKGet kvs m dflt r) Q ↔ wo (m r) (kKGet kvs dflt Q) := by
  unfold mKGet kKGet
  rcases m r with _ | ⟨y, r1⟩
  · simp [y7]
  · cases y <;> simp [y7, y6]
def canB : Option (Option Sl) → Bool
  | some (some (.own _)) => false
  | some _ => true
  | none => false
theorem canB_none : canB (some none) = true := rfl
theorem canB_d {x} : canB (some (some (.d x))) = true := rfl
theorem canB_scr {x} : canB (some (some (.scr x))) = true := rfl
theorem wo_bindNm {i x r Q} : wo (Tg.bind (.nm i) x r) Q ↔ canB r[i]? = true ∧ Q (r.set i (some (.d x))) := by
  simp only [Tg.bind]
  unfold canB
  rcases r[i]? with _ | (_ | (_ | _ | _)) <;> simp [y7, y6]
theorem wo_bindTup {ts xs r Q} : wo (Tg.bind (.tup ts) (.tuple xs) r) Q ↔ xs.length = ts.len ∧ wo (ts.bind xs r) Q := by
  simp only [Tg.bind]
  rw [wo_guard]
def kBs (ts : Tgs) (xs : List D) (Q : Env → Prop) : Env → Prop := fun r => wo (ts.bind xs r) Q
theorem kBs_ap {ts xs Q r} : kBs ts xs Q r ↔ wo (ts.bind xs r) Q := Iff.rfl
theorem wo_bindsNil {r Q} : wo (Tgs.bind .nil [] r) Q ↔ Q r := by simp only [Tgs.bind, y6]
theorem wo_bindsCons {t ts x xs r Q} : wo (Tgs.bind (.cons t ts) (x :: xs) r) Q ↔ wo (t.bind x r) (kBs ts xs Q) := by
  simp only [Tgs.bind]
  unfold kBs
  rcases t.bind x r with _ | r1 <;> simp [y7, y6]
def kFor (t : Tg) (m : SS) (Q : KS) : KA := fun x => wo (forL t m x.1 x.2) Q
theorem kFor_ap {t m Q ds r} : kFor t m Q (ds, r) ↔ wo (forL t m ds r) Q := Iff.rfl
theorem wo_sFor {src t m r Q} : wo (sFor src t m r) Q ↔ wo (src r) (kFor t m Q) := by
  unfold sFor kFor
  rcases src r with _ | ⟨f, r1⟩ <;> simp [y7, y6]
def kTurn (t : Tg) (m : SS) (ds : List D) (Q : KS) : KS := fun x => match x.1 with
  | .nx => wo (forL t m ds x.2) Q
  | .ct => wo (forL t m ds x.2) Q
  | .bk => Q (.nx, x.2)
  | .ret d => Q (.ret d, x.2)
  | .retN d => Q (.retN d, x.2)
theorem kTurn_nx {t m ds Q r} : kTurn t m ds Q (.nx, r) ↔ wo (forL t m ds r) Q := Iff.rfl
theorem kTurn_ct {t m ds Q r} : kTurn t m ds Q (.ct, r) ↔ wo (forL t m ds r) Q := Iff.rfl
theorem kTurn_bk {t m ds Q r} : kTurn t m ds Q (.bk, r) ↔ Q (.nx, r) := Iff.rfl
theorem kTurn_ret {t m ds Q d r} : kTurn t m ds Q (.ret d, r) ↔ Q (.ret d, r) := Iff.rfl
theorem kTurn_retN {t m ds Q d r} : kTurn t m ds Q (.retN d, r) ↔ Q (.retN d, r) := Iff.rfl
def kBd (m : SS) (Q : KS) : Env → Prop := fun r => wo (m r) Q
theorem kBd_ap {m Q r} : kBd m Q r ↔ wo (m r) Q := Iff.rfl
theorem wo_forNil {t m r Q} : wo (forL t m [] r) Q ↔ Q (.nx, r) := y6
theorem wo_forCons {t m d ds r Q} : wo (forL t m (d :: ds) r) Q ↔ wo (t.bind d r) (kBd m (kTurn t m ds Q)) := by
  rw [forL]
  unfold kBd kTurn
  rcases t.bind d r with _ | r1
  · simp [y7]
  · simp only [y6]
    rcases m r1 with _ | ⟨f, r2⟩
    · simp [y7]
    · cases f <;> simp [y6]
/-- a loop by what holds while ds are left -/
theorem for_inv {t m Q} (I : List D → Env → Prop) (step : ∀ d ds r, I (d :: ds) r → wo (t.bind d r) (kBd m fun x => match x.1 with
    | .nx => I ds x.2 | .ct => I ds x.2 | .bk => Q (.nx, x.2) | .ret v => Q (.ret v, x.2) | .retN v => Q (.retN v, x.2))) (fin : ∀ r, I [] r → Q (.nx, r)) : ∀ ds r, I ds r → wo (forL t m ds r) Q
  | [], r, h => wo_forNil.mpr (fin r h)
  | d :: ds, r, h => by
    rw [wo_forCons]
    refine wo_mono (step d ds r h) fun r1 h1 => ?_
    refine wo_mono h1 fun x hx => ?_
    obtain ⟨f, r2⟩ := x
    cases f with
    | nx => exact for_inv I step fin ds r2 hx
    | ct => exact for_inv I step fin ds r2 hx
    | bk => exact hx
    | ret v => exact hx
    | retN v => exact hx
def kLc2 (t : Tg) (r : Env) (Q : KA) : KA := fun x => Q (x.1, restore t.ix r x.2)
theorem kLc2_ap {t r Q ys rf} : kLc2 t r Q (ys, rf) ↔ Q (ys, restore t.ix r rf) := Iff.rfl
def kLc (t : Tg) (c : ST) (m : SE) (Q : KA) : KA := fun x => (decide (x.1.length ≤ sizeLine) && t.ix.all (notOwn x.2)) = true ∧ wo (lcLoop t c m t.ix x.1 (wipeE x.2 t.ix)) (kLc2 t x.2 Q)
theorem kLc_ap {t c m Q ds r} : kLc t c m Q (ds, r) ↔ (decide (ds.length ≤ sizeLine) && t.ix.all (notOwn r)) = true ∧ wo (lcLoop t c m t.ix ds (wipeE r t.ix)) (kLc2 t r Q) := Iff.rfl
theorem wo_nLc {src t c m r Q} : wo (nLc src t c m r) Q ↔ wo (src r) (kLc t c m Q) := by
  unfold nLc kLc kLc2
  rcases src r with _ | ⟨ds, r1⟩
  · simp [y7]
  · simp only [y6, wo_guard]
    refine and_congr Iff.rfl ?_
    rcases lcLoop t c m t.ix ds (wipeE r1 t.ix) with _ | ⟨ys, rf⟩ <;> simp [y7, y6]
theorem wo_lcNil {t c m vs r Q} : wo (lcLoop t c m vs [] r) Q ↔ Q ([], r) := y6
def kLcM (t : Tg) (c : ST) (m : SE) (vs : List Nat) (ds : List D) (Q : KA) : KE := fun x => wo (lcLoop t c m vs ds (wipeE x.2 vs)) (kACons2 x.1 Q)
theorem kLcM_ap {t c m vs ds Q y r} : kLcM t c m vs ds Q (y, r) ↔ wo (lcLoop t c m vs ds (wipeE r vs)) (kACons2 y Q) := Iff.rfl
def kLcT (t : Tg) (c : ST) (m : SE) (vs : List Nat) (ds : List D) (Q : KA) : KB := fun x => if x.1 then wo (m x.2) (kLcM t c m vs ds Q) else wo (lcLoop t c m vs ds (wipeE x.2 vs)) Q
theorem kLcT_ap {t c m vs ds Q b r} : kLcT t c m vs ds Q (b, r) ↔ if b then wo (m r) (kLcM t c m vs ds Q) else wo (lcLoop t c m vs ds (wipeE r vs)) Q := Iff.rfl
def kLcB (t : Tg) (c : ST) (m : SE) (vs : List Nat) (ds : List D) (Q : KA) : Env → Prop := fun r => wo (c r) (kLcT t c m vs ds Q)
theorem kLcB_ap {t c m vs ds Q r} : kLcB t c m vs ds Q r ↔ wo (c r) (kLcT t c m vs ds Q) := Iff.rfl
theorem wo_lcCons {t c m vs d ds r Q} : wo (lcLoop t c m vs (d :: ds) r) Q ↔ wo (t.bind d r) (kLcB t c m vs ds Q) := by
  rw [lcLoop]
  unfold kLcB kLcT kLcM kACons2
  rcases t.bind d r with _ | r1
  · simp [y7]
  · simp only [y6]
    rcases c r1 with _ | ⟨(_ | _), r2⟩
    · simp [y7]
    · simp [y6]
    · simp only [y6, if_true]
      rcases m r2 with _ | ⟨y, r3⟩
      · simp [y7]
      · simp only [y6]
        rcases lcLoop t c m vs ds (wipeE r3 vs) with _ | ⟨ys, rf⟩ <;> simp [y7, y6]
theorem wo_tTrue {r Q} : wo (tTrue r) Q ↔ Q (true, r) := y6
/-- a comprehension by what holds: of what is left, what was made, the frame -/
theorem lc_inv {t c m vs} {Q : KA} (I : List D → List D → Env → Prop) (step : ∀ d ds ys r, I (d :: ds) ys r → wo (t.bind d r) fun r1 => wo (c r1) fun x => if x.1 then wo (m x.2) (fun y => I ds (ys ++ [y.1]) (wipeE y.2 vs)) else I ds ys (wipeE x.2 vs))
    (ds : List D) (r : Env) (h : I ds [] r) (fin : ∀ ys r, I [] ys r → Q (ys, r)) : wo (lcLoop t c m vs ds r) Q := by
  have key : ∀ ds ys r, I ds ys r → wo (lcLoop t c m vs ds r) (fun x => I [] (ys ++ x.1) x.2) := by
    intro ds
    induction ds with
    | nil => intro ys r h; rw [wo_lcNil]; simpa using h
    | cons d ds ih =>
      intro ys r h
      rw [wo_lcCons]
      refine wo_mono (step d ds ys r h) fun r1 h1 => ?_
      refine wo_mono h1 fun x hx => ?_
      unfold kLcT
      by_cases hb : x.1 = true
      · simp only [hb, if_true] at hx ⊢
        refine wo_mono hx fun y hy => ?_
        refine wo_mono (ih _ _ hy) fun z hz => ?_
        unfold kACons2
        simpa using hz
      · simp only [hb] at hx ⊢
        exact ih _ _ hx
  exact wo_mono (key ds [] r h) fun x hx => fin x.1 x.2 (by simpa using hx)
def itB : Option D → Option (List D)
  | some (.list xs) => some xs
  | some (.tuple xs) => some xs
  | some (.str z) => some (signs z)
  | _ => none
theorem itB_l {xs} : itB (some (.list xs)) = some xs := rfl
theorem itB_t {xs} : itB (some (.tuple xs)) = some xs := rfl
theorem itB_s {z} : itB (some (.str z)) = some (signs z) := rfl
def kItD (o : Opd) (Q : KA) : Option D × Env → Prop := fun x => wo (itB (o.postD x.1 x.2)) (kW Q x.2)
theorem kItD_ap {o Q x r} : kItD o Q (x, r) ↔ wo (itB (o.postD x r)) (kW Q r) := Iff.rfl
theorem wo_iData {o : Opd} {r Q} : wo (iData o r) Q ↔ o.here r = true ∧ wo (o.pre r) (kItD o Q) := by
  unfold iData kItD kW
  rw [wo_guard]
  refine and_congr Iff.rfl ?_
  rcases o.pre r with _ | ⟨x, r1⟩
  · simp [y7]
  · simp only [y6]
    rcases o.postD x r1 with _ | d
    · simp [y7, itB]
    · cases d <;> simp [y7, y6, itB]
def kRg (Q : KA) : KE := fun x => ∃ n, x.1 = .int n ∧ (-(2 ^ 62) ≤ n ∧ n < 2 ^ 62) ∧ Q (rangeD 0 n.toNat, x.2)
theorem kRg_ap {Q n r} : kRg Q (.int n, r) ↔ (-(2 ^ 62) ≤ n ∧ n < 2 ^ 62) ∧ Q (rangeD 0 n.toNat, r) := ⟨fun ⟨c, e, h⟩ => by cases e; exact h, fun h => ⟨n, rfl, h⟩⟩
theorem wo_iRange1 {m r Q} : wo (iRange1 m r) Q ↔ wo (m r) (kRg Q) := by
  unfold iRange1 kRg
  rcases m r with _ | ⟨x, r1⟩
  · simp [y7]
  · cases x <;> simp [y7, y6, wo_guard]
def kRg3 (a : Int) (Q : KA) : KE := fun x => ∃ b, x.1 = .int b ∧ (-(2 ^ 62) ≤ a ∧ a < 2 ^ 62 ∧ -(2 ^ 62) ≤ b ∧ b < 2 ^ 62) ∧ Q (rangeD a (b - a).toNat, x.2)
theorem kRg3_ap {a Q b r} : kRg3 a Q (.int b, r) ↔ (-(2 ^ 62) ≤ a ∧ a < 2 ^ 62 ∧ -(2 ^ 62) ≤ b ∧ b < 2 ^ 62) ∧ Q (rangeD a (b - a).toNat, r) := ⟨fun ⟨c, e, h⟩ => by cases e; exact h, fun h => ⟨b, rfl, h⟩⟩
def kRg2 (n : SE) (Q : KA) : KE := fun x => ∃ a, x.1 = .int a ∧ wo (n x.2) (kRg3 a Q)
theorem kRg2_ap {n Q a r} : kRg2 n Q (.int a, r) ↔ wo (n r) (kRg3 a Q) := ⟨fun ⟨c, e, h⟩ => by cases e; exact h, fun h => ⟨a, rfl, h⟩⟩
theorem wo_iRange2 {m n r Q} : wo (iRange2 m n r) Q ↔ wo (m r) (kRg2 n Q) := by
  unfold iRange2 kRg2 kRg3
  rcases m r with _ | ⟨x, r1⟩
  · simp [y7]
  · cases x <;> simp only [y6, y7, reduceCtorEq, false_and, exists_false, PyData.int.injEq, exists_eq_left']
    rcases n r1 with _ | ⟨y, r2⟩
    · simp [y7]
    · cases y <;> simp [y7, y6, wo_guard]
def zipB : Option D → Option D → Option (List D)
  | some (.list xs), some (.list ys) => some (pairD xs ys)
  | some (.tuple xs), some (.tuple ys) => some (pairD xs ys)
  | _, _ => none
theorem zipB_l {xs ys} : zipB (some (.list xs)) (some (.list ys)) = some (pairD xs ys) := rfl
theorem zipB_t {xs ys} : zipB (some (.tuple xs)) (some (.tuple ys)) = some (pairD xs ys) := rfl
def kZip (o o2 : Opd) (Q : KA) : KP := fun x => ∃ y z, x.1 = [y, z] ∧ wo (zipB (o.postR y x.2) (o2.postR z x.2)) (kW Q x.2)
theorem kZip_ap {o o2 Q y z r} : kZip o o2 Q ([y, z], r) ↔ wo (zipB (o.postR y r) (o2.postR z r)) (kW Q r) := ⟨fun ⟨a, b, e, h⟩ => by cases e; exact h, fun h => ⟨y, z, rfl, h⟩⟩
theorem wo_iZip {o o2 : Opd} {r Q} : wo (DL.iZip o o2 r) Q ↔ wo (preAll [o, o2] r) (kZip o o2 Q) := by
  unfold DL.iZip kZip kW
  rcases preAll [o, o2] r with _ | ⟨xs, r1⟩
  · simp [y7]
  · rcases xs with _ | ⟨y, _ | ⟨z, _ | ⟨u, us⟩⟩⟩
    · simp [y7, y6]
    · simp [y7, y6]
    · have h : ∀ {P : Option D → Option D → Prop}, (∃ a b, [y, z] = [a, b] ∧ P a b) ↔ P y z := ⟨fun ⟨a, b, e, h⟩ => by cases e; exact h, fun h => ⟨y, z, rfl, h⟩⟩
      simp only [y6, h]
      rcases o.postR y r1 with _ | a <;> rcases o2.postR z r1 with _ | b
      · simp [y7, zipB]
      · simp [y7, zipB]
      · cases a <;> simp [y7, zipB]
      · cases a <;> cases b <;> simp [y7, y6, zipB]
    · simp [y7, y6]
def enB : Option D → Option (List D)
  | some (.list xs) => some (enumD 0 xs)
  | some (.tuple xs) => some (enumD 0 xs)
  | _ => none
theorem enB_l {xs} : enB (some (.list xs)) = some (enumD 0 xs) := rfl
theorem enB_t {xs} : enB (some (.tuple xs)) = some (enumD 0 xs) := rfl
def kEnum (o : Opd) (Q : KA) : KP := fun x => ∃ y, x.1 = [y] ∧ wo (enB (o.postR y x.2)) (kW Q x.2)
theorem kEnum_ap {o Q y r} : kEnum o Q ([y], r) ↔ wo (enB (o.postR y r)) (kW Q r) := ⟨fun ⟨a, e, h⟩ => by cases e; exact h, fun h => ⟨y, rfl, h⟩⟩
theorem wo_iEnum2 {o : Opd} {r Q} : wo (iEnum2 o r) Q ↔ wo (preAll [o] r) (kEnum o Q) := by
  unfold iEnum2 kEnum kW
  rcases preAll [o] r with _ | ⟨xs, r1⟩
  · simp [y7]
  · rcases xs with _ | ⟨y, _ | ⟨z, zs⟩⟩
    · simp [y7, y6]
    · simp only [y6, List.cons.injEq, and_true, exists_eq_left']
      rcases o.postR y r1 with _ | a
      · simp [y7, enB]
      · cases a <;> simp [y7, y6, enB]
    · simp [y7, y6]
def kTxt (lim : Bool) (Q : List Str × Env → Prop) : KE := fun x => wo (seqB x.1) fun ds => wo (textsOf ds) fun xs => (lim = true → xs.length < 64) ∧ Q (xs, x.2)
def kTxt3 (lim : Bool) (r : Env) (Q : List Str × Env → Prop) : List Str → Prop := fun xs => (lim = true → xs.length < 64) ∧ Q (xs, r)
theorem kTxt3_ap {r Q xs} : kTxt3 true r Q xs ↔ xs.length < 64 ∧ Q (xs, r) := by unfold kTxt3; simp
theorem kTxt3_ap' {r Q xs} : kTxt3 false r Q xs ↔ Q (xs, r) := by unfold kTxt3; simp
def kTxt2 (lim : Bool) (r : Env) (Q : List Str × Env → Prop) : List D → Prop := fun ds => wo (textsOf ds) (kTxt3 lim r Q)
theorem kTxt2_ap {lim r Q ds} : kTxt2 lim r Q ds ↔ wo (textsOf ds) (kTxt3 lim r Q) := Iff.rfl
theorem kTxt_ap {lim Q d r} : kTxt lim Q (d, r) ↔ wo (seqB d) (kTxt2 lim r Q) := Iff.rfl
theorem wo_opdT {o : Opd} {r Q} : wo (opdT o r) Q ↔ opd1 true o r (kTxt true Q) := by
  unfold opdT opd1 kOp1 kTxt
  rw [wo_guard]
  refine and_congr Iff.rfl ?_
  rcases o.pre r with _ | ⟨x, r'⟩
  · simp [y7]
  · simp only [y6]
    rcases o.post true x r' with _ | d
    · simp [y7]
    · simp only [y6]
      have : seqOf d = seqB d := by cases d <;> rfl
      rw [this]
      rcases seqB d with _ | ds
      · simp [y7]
      · simp only [y6]
        rcases textsOf ds with _ | xs
        · simp [y7]
        · simp [y6, wo_guard]
theorem wo_opdX {o : Opd} {r Q} : wo (opdX o r) Q ↔ opd1 true o r (kTxt false Q) := by
  unfold opdX opd1 kOp1 kTxt
  rw [wo_guard]
  refine and_congr Iff.rfl ?_
  rcases o.pre r with _ | ⟨x, r'⟩
  · simp [y7]
  · simp only [y6]
    rcases o.post true x r' with _ | d
    · simp [y7]
    · simp only [y6]
      have : seqOf d = seqB d := by cases d <;> rfl
      rw [this]
      rcases seqB d with _ | ds
      · simp [y7]
      · simp only [y6]
        rcases textsOf ds with _ | xs
        · simp [y7]
        · simp [y6]
def kSortSet (Q : KA) : List Str × Env → Prop := fun x => Q ((sortT (uniqS x.1)).map PyData.str, x.2)
theorem kSortSet_ap {Q xs r} : kSortSet Q (xs, r) ↔ Q ((sortT (uniqS xs)).map PyData.str, r) := Iff.rfl
theorem wo_nSortSet {o r Q} : wo (nSortSet o r) Q ↔ opd1 true o r (kTxt true (kSortSet Q)) := by
  rw [← wo_opdT]
  unfold nSortSet kSortSet
  rcases opdT o r with _ | ⟨xs, r1⟩ <;> simp [y7, y6]
def kLenSet (Q : KE) : List Str × Env → Prop := fun x => Q (.int (uniqS x.1).length, x.2)
theorem kLenSet_ap {Q xs r} : kLenSet Q (xs, r) ↔ Q (.int (uniqS xs).length, r) := Iff.rfl
theorem wo_mLenSet {o r Q} : wo (mLenSet o r) Q ↔ opd1 true o r (kTxt true (kLenSet Q)) := by
  rw [← wo_opdT]
  unfold mLenSet kLenSet
  rcases opdT o r with _ | ⟨xs, r1⟩ <;> simp [y7, y6]
def joinOk (a : Str) (xs : List Str) : Prop := (xs.map (·.length)).sum + xs.length * a.length ≤ 16777216 ∧ PyData.strOk (Txt.join a xs) = true
def kJoin2 (a : Str) (Q : KE) : List Str × Env → Prop := fun x => joinOk a x.1 ∧ Q (.str (Txt.join a x.1), x.2)
theorem kJoin2_ap {a Q xs r} : kJoin2 a Q (xs, r) ↔ joinOk a xs ∧ Q (.str (Txt.join a xs), r) := Iff.rfl
def kJoin (o : Opd) (Q : KE) : KE := fun x => ∃ a, x.1 = .str a ∧ opd1 true o x.2 (kTxt false (kJoin2 a Q))
theorem kJoin_ap {o Q a r} : kJoin o Q (.str a, r) ↔ opd1 true o r (kTxt false (kJoin2 a Q)) := ⟨fun ⟨c, e, h⟩ => by cases e; exact h, fun h => ⟨a, rfl, h⟩⟩
theorem wo_mJoin {m o r Q} : wo (mJoin m o r) Q ↔ wo (m r) (kJoin o Q) := by
  unfold mJoin kJoin
  simp only [← wo_opdX]
  unfold kJoin2 joinOk
  rcases m r with _ | ⟨x, r1⟩
  · simp [y7]
  · cases x <;> simp only [y6, y7, reduceCtorEq, false_and, exists_false, PyData.str.injEq, exists_eq_left']
    rcases opdX o r1 with _ | ⟨xs, r2⟩ <;> simp [y7, y6, wo_guard]
def splitOk (a b : Str) : Prop := (b.length == 0) = false ∧ a.length + 2 ≤ sizeLine ∧ (∀ x ∈ Txt.split a b, PyData.strOk x = true)
def kSplit2 (a : Str) (Q : KA) : KE := fun x => ∃ b, x.1 = .str b ∧ splitOk a b ∧ Q ((Txt.split a b).map PyData.str, x.2)
theorem kSplit2_ap {a Q b r} : kSplit2 a Q (.str b, r) ↔ splitOk a b ∧ Q ((Txt.split a b).map PyData.str, r) := ⟨fun ⟨c, e, h⟩ => by cases e; exact h, fun h => ⟨b, rfl, h⟩⟩
def kSplit (n : SE) (Q : KA) : KE := fun x => ∃ a, x.1 = .str a ∧ wo (n x.2) (kSplit2 a Q)
theorem kSplit_ap {n Q a r} : kSplit n Q (.str a, r) ↔ wo (n r) (kSplit2 a Q) := ⟨fun ⟨c, e, h⟩ => by cases e; exact h, fun h => ⟨a, rfl, h⟩⟩
theorem wo_nSplit {m n r Q} : wo (nSplit m n r) Q ↔ wo (m r) (kSplit n Q) := by
  unfold nSplit kSplit kSplit2 splitOk
  rcases m r with _ | ⟨x, r1⟩
  · simp [y7]
  · cases x <;> simp only [y6, y7, reduceCtorEq, false_and, exists_false, PyData.str.injEq, exists_eq_left']
    rcases n r1 with _ | ⟨y, r2⟩
    · simp [y7]
    · cases y <;> simp [y7, y6, wo_guard]
def kUpper (Q : KE) : KE := fun x => ∃ a, x.1 = .str a ∧ (a.length ≤ 5592405 ∧ PyData.strOk (Txt.upper a) = true) ∧ Q (.str (Txt.upper a), x.2)
theorem kUpper_ap {Q a r} : kUpper Q (.str a, r) ↔ (a.length ≤ 5592405 ∧ PyData.strOk (Txt.upper a) = true) ∧ Q (.str (Txt.upper a), r) := ⟨fun ⟨c, e, h⟩ => by cases e; exact h, fun h => ⟨a, rfl, h⟩⟩
theorem wo_mUpper {m r Q} : wo (mUpper m r) Q ↔ wo (m r) (kUpper Q) := by
  unfold mUpper kUpper
  rcases m r with _ | ⟨x, r1⟩
  · simp [y7]
  · cases x <;> simp [y7, y6, wo_guard]
def kSortL3 (r : Env) (Q : KA) : List Str → Prop := fun xs => xs.length < 64 ∧ Q ((sortT xs).map PyData.str, r)
theorem kSortL3_ap {r Q xs} : kSortL3 r Q xs ↔ xs.length < 64 ∧ Q ((sortT xs).map PyData.str, r) := Iff.rfl
def kSortL (Q : KA) : KE := fun x => ∃ ds, x.1 = .list ds ∧ wo (textsOf ds) (kSortL3 x.2 Q)
theorem kSortL_ap {Q ds r} : kSortL Q (.list ds, r) ↔ wo (textsOf ds) (kSortL3 r Q) := ⟨fun ⟨c, e, h⟩ => by cases e; exact h, fun h => ⟨ds, rfl, h⟩⟩
theorem wo_nSort {o r Q} : wo (nSort o r) Q ↔ opd1 true o r (kSortL Q) := by
  unfold nSort opd1 kOp1 kSortL kSortL3
  rw [wo_guard]
  refine and_congr Iff.rfl ?_
  rcases o.pre r with _ | ⟨x, r'⟩
  · simp [y7]
  · simp only [y6]
    rcases o.post true x r' with _ | d
    · simp [y7]
    · cases d <;> simp only [y6, y7, reduceCtorEq, false_and, exists_false, PyData.list.injEq, exists_eq_left']
      rename_i ds
      rcases textsOf ds with _ | xs <;> simp [y7, y6, wo_guard]
def kRun2 (d : D) (Q : D × List Sl → Prop) : List Sl → Prop := fun bs => Q (d, bs)
theorem kRun2_ap {d Q bs} : kRun2 d Q bs ↔ Q (d, bs) := Iff.rfl
def kRun (as : List Sl) (Q : D × List Sl → Prop) : KS := fun x => match x.1 with
  | .ret d => wo (outs x.2 0 as) (kRun2 d Q)
  | .retN ds => wo (outs x.2 0 as) (kRun2 (.list ds) Q)
  | .nx => wo (outs x.2 0 as) (kRun2 .none Q)
  | _ => False
theorem kRun_ret {as Q d r} : kRun as Q (.ret d, r) ↔ wo (outs r 0 as) (kRun2 d Q) := Iff.rfl
theorem kRun_retN {as Q d r} : kRun as Q (.retN d, r) ↔ wo (outs r 0 as) (kRun2 (.list d) Q) := Iff.rfl
theorem kRun_nx {as Q r} : kRun as Q (.nx, r) ↔ wo (outs r 0 as) (kRun2 .none Q) := Iff.rfl
theorem wo_runF {n io m as Q} : wo (runF n io m as) Q ↔ ioOk io 0 as = true ∧ wo (m (pad n as)) (kRun as Q) := by
  unfold runF kRun kRun2
  rw [wo_guard]
  refine and_congr Iff.rfl ?_
  rcases m (pad n as) with _ | ⟨f, r⟩
  · simp [y7]
  · cases f <;> simp only [y6, y7]
    · rcases outs r 0 as with _ | bs <;> simp [y7, y6]
    · rcases outs r 0 as with _ | bs <;> simp [y7, y6]
    · rcases outs r 0 as with _ | bs <;> simp [y7, y6]
def kRunN2 (d : List D) (Q : List D × List Sl → Prop) : List Sl → Prop := fun bs => Q (d, bs)
theorem kRunN2_ap {d Q bs} : kRunN2 d Q bs ↔ Q (d, bs) := Iff.rfl
def kRunN (as : List Sl) (Q : List D × List Sl → Prop) : KS := fun x => match x.1 with
  | .retN ds => wo (outs x.2 0 as) (kRunN2 ds Q)
  | _ => False
theorem kRunN_retN {as Q d r} : kRunN as Q (.retN d, r) ↔ wo (outs r 0 as) (kRunN2 d Q) := Iff.rfl
theorem wo_runN {n io m as Q} : wo (DL.runN n io m as) Q ↔ ioOk io 0 as = true ∧ wo (m (pad n as)) (kRunN as Q) := by
  unfold DL.runN kRunN kRunN2
  rw [wo_guard]
  refine and_congr Iff.rfl ?_
  rcases m (pad n as) with _ | ⟨f, r⟩
  · simp [y7]
  · cases f <;> simp only [y6, y7]
    rcases outs r 0 as with _ | bs <;> simp [y7, y6]
theorem outs_nil {r i} : outs r i [] = some [] := rfl
def kOut2 (a : Sl) (Q : List Sl → Prop) : List Sl → Prop := fun bs => Q (a :: bs)
theorem kOut2_ap {a Q bs} : kOut2 a Q bs ↔ Q (a :: bs) := Iff.rfl
def kOut (r : Env) (i : Nat) (as : List Sl) (Q : List Sl → Prop) : List D → Prop := fun ys => wo (outs r i as) (kOut2 (.own ys) Q)
theorem kOut_ap {r i as Q ys} : kOut r i as Q ys ↔ wo (outs r i as) (kOut2 (.own ys) Q) := Iff.rfl
theorem wo_outOwn {r i xs as Q} : wo (outs r i (.own xs :: as)) Q ↔ wo (ownB r[i]?) (kOut r (i + 1) as Q) := by
  rw [outs]
  unfold kOut kOut2 ownB
  rcases r[i]? with _ | (_ | (_ | ys | _)) <;> simp only [y6, y7]
  rcases outs r (i + 1) as with _ | bs <;> simp [y7, y6]
theorem wo_outD {r i x as Q} : wo (outs r i (.d x :: as)) Q ↔ wo (outs r (i + 1) as) (kOut2 (.d x) Q) := by
  rw [outs]
  unfold kOut2
  rcases outs r (i + 1) as with _ | bs <;> simp [y7, y6]
theorem wo_outScr {r i x as Q} : wo (outs r i (.scr x :: as)) Q ↔ wo (outs r (i + 1) as) (kOut2 (.scr x) Q) := by
  rw [outs]
  unfold kOut2
  rcases outs r (i + 1) as with _ | bs <;> simp [y7, y6]
theorem wo_mCst {d r Q} : wo (j8 d r) Q ↔ Q (d, r) := y6
theorem wo_mVar {i r Q} : wo (mVar i r) Q ↔ wo (datB r[i]?) (kV Q r) := by
  unfold mVar datB kV
  rcases r[i]? with _ | (_ | (_ | _ | _)) <;> simp [y7, y6]
def rvB (io : List Nat) (i : Nat) : Option (Option Sl) → Option D
  | some (some (.d x)) => some x
  | some (some (.own xs)) => if i ∈ io then none else some (.list xs)
  | _ => none
theorem rvB_d {io i x} : rvB io i (some (some (.d x))) = some x := rfl
theorem rvB_own {io i x} : rvB io i (some (some (.own x))) = if i ∈ io then none else some (.list x) := rfl
theorem wo_rVar {io i r Q} : wo (rVar io i r) Q ↔ wo (rvB io i r[i]?) (kV Q r) := by
  unfold rVar rvB kV
  rcases r[i]? with _ | (_ | (_ | _ | _)) <;> simp only [y7, y6]
  split <;> simp [y7, y6]
end DL
namespace DL
open PySem PySem.Spec L2
theorem isT_non_int : isT .none "int" = some false := by simp [isT]
theorem isT_non_bool : isT .none "bool" = some false := by simp [isT]
theorem isT_non_str : isT .none "str" = some false := by simp [isT]
theorem isT_non_list : isT .none "list" = some false := by simp [isT]
theorem isT_non_tuple : isT .none "tuple" = some false := by simp [isT]
theorem isT_bl_int {b : Bool} : isT (.bool b) "int" = some true := by simp [isT]
theorem isT_bl_bool {b : Bool} : isT (.bool b) "bool" = some true := by simp [isT]
theorem isT_bl_str {b : Bool} : isT (.bool b) "str" = some false := by simp [isT]
theorem isT_bl_list {b : Bool} : isT (.bool b) "list" = some false := by simp [isT]
theorem isT_bl_tuple {b : Bool} : isT (.bool b) "tuple" = some false := by simp [isT]
theorem isT_int_int {i : Int} : isT (.int i) "int" = some true := by simp [isT]
theorem isT_int_bool {i : Int} : isT (.int i) "bool" = some false := by simp [isT]
theorem isT_int_str {i : Int} : isT (.int i) "str" = some false := by simp [isT]
theorem isT_int_list {i : Int} : isT (.int i) "list" = some false := by simp [isT]
theorem isT_int_tuple {i : Int} : isT (.int i) "tuple" = some false := by simp [isT]
theorem isT_str_int {x : Str} : isT (.str x) "int" = some false := by simp [isT]
theorem isT_str_bool {x : Str} : isT (.str x) "bool" = some false := by simp [isT]
theorem isT_str_str {x : Str} : isT (.str x) "str" = some true := by simp [isT]
theorem isT_str_list {x : Str} : isT (.str x) "list" = some false := by simp [isT]
theorem isT_str_tuple {x : Str} : isT (.str x) "tuple" = some false := by simp [isT]
theorem isT_lst_int {xs : List D} : isT (.list xs) "int" = some false := by simp [isT]
theorem isT_lst_bool {xs : List D} : isT (.list xs) "bool" = some false := by simp [isT]
theorem isT_lst_str {xs : List D} : isT (.list xs) "str" = some false := by simp [isT]
theorem isT_lst_list {xs : List D} : isT (.list xs) "list" = some true := by simp [isT]
theorem isT_lst_tuple {xs : List D} : isT (.list xs) "tuple" = some false := by simp [isT]
theorem isT_tup_int {xs : List D} : isT (.tuple xs) "int" = some false := by simp [isT]
theorem isT_tup_bool {xs : List D} : isT (.tuple xs) "bool" = some false := by simp [isT]
theorem isT_tup_str {xs : List D} : isT (.tuple xs) "str" = some false := by simp [isT]
theorem isT_tup_list {xs : List D} : isT (.tuple xs) "list" = some false := by simp [isT]
theorem isT_tup_tuple {xs : List D} : isT (.tuple xs) "tuple" = some true := by simp [isT]
theorem isT2_list_tuple_non : isT2 "list" "tuple" .none = some false := by simp [isT2, isT]
theorem isT2_list_tuple_bl {b : Bool} : isT2 "list" "tuple" (.bool b) = some false := by simp [isT2, isT]
theorem isT2_list_tuple_int {i : Int} : isT2 "list" "tuple" (.int i) = some false := by simp [isT2, isT]
theorem isT2_list_tuple_str {x : Str} : isT2 "list" "tuple" (.str x) = some false := by simp [isT2, isT]
theorem isT2_list_tuple_lst {xs : List D} : isT2 "list" "tuple" (.list xs) = some true := by simp [isT2, isT]
theorem isT2_list_tuple_tup {xs : List D} : isT2 "list" "tuple" (.tuple xs) = some true := by simp [isT2, isT]
theorem isT2_tuple_list_non : isT2 "tuple" "list" .none = some false := by simp [isT2, isT]
theorem isT2_tuple_list_bl {b : Bool} : isT2 "tuple" "list" (.bool b) = some false := by simp [isT2, isT]
theorem isT2_tuple_list_int {i : Int} : isT2 "tuple" "list" (.int i) = some false := by simp [isT2, isT]
theorem isT2_tuple_list_str {x : Str} : isT2 "tuple" "list" (.str x) = some false := by simp [isT2, isT]
theorem isT2_tuple_list_lst {xs : List D} : isT2 "tuple" "list" (.list xs) = some true := by simp [isT2, isT]
theorem isT2_tuple_list_tup {xs : List D} : isT2 "tuple" "list" (.tuple xs) = some true := by simp [isT2, isT]
theorem isT2_bool_str_non : isT2 "bool" "str" .none = some false := by simp [isT2, isT]
theorem isT2_bool_str_bl {b : Bool} : isT2 "bool" "str" (.bool b) = some true := by simp [isT2, isT]
theorem isT2_bool_str_int {i : Int} : isT2 "bool" "str" (.int i) = some false := by simp [isT2, isT]
theorem isT2_bool_str_str {x : Str} : isT2 "bool" "str" (.str x) = some true := by simp [isT2, isT]
theorem isT2_bool_str_lst {xs : List D} : isT2 "bool" "str" (.list xs) = some false := by simp [isT2, isT]
theorem isT2_bool_str_tup {xs : List D} : isT2 "bool" "str" (.tuple xs) = some false := by simp [isT2, isT]
theorem isT2_int_str_non : isT2 "int" "str" .none = some false := by simp [isT2, isT]
theorem isT2_int_str_bl {b : Bool} : isT2 "int" "str" (.bool b) = some true := by simp [isT2, isT]
theorem isT2_int_str_int {i : Int} : isT2 "int" "str" (.int i) = some true := by simp [isT2, isT]
theorem isT2_int_str_str {x : Str} : isT2 "int" "str" (.str x) = some true := by simp [isT2, isT]
theorem isT2_int_str_lst {xs : List D} : isT2 "int" "str" (.list xs) = some false := by simp [isT2, isT]
theorem isT2_int_str_tup {xs : List D} : isT2 "int" "str" (.tuple xs) = some false := by simp [isT2, isT]
section
variable {Q : D → Prop} {i j : Int} {x y : Str} {xs ys ds : List D} {d : D}
theorem wo_gd {α : Type} {c : Prop} [Decidable c] {a : α} {Q : α → Prop} : wo (if c then some a else none) Q ↔ c ∧ Q a := by rw [wo_guard, y6]
theorem wo_fAddI : wo (fAdd (.int i) (.int j)) Q ↔ Q (.int (i + j)) := y6
theorem wo_fAddS : wo (fAdd (.str x) (.str y)) Q ↔ x.length + y.length ≤ sizeLine ∧ Q (.str (x ++ y)) := wo_gd
theorem wo_fAddT : wo (fAdd (.tuple xs) (.tuple ys)) Q ↔ xs.length + ys.length ≤ sizeLine ∧ Q (.tuple (xs ++ ys)) := wo_gd
theorem wo_fAddL : wo (fAdd (.list xs) (.list ys)) Q ↔ xs.length + ys.length ≤ sizeLine ∧ Q (.list (xs ++ ys)) := wo_gd
theorem wo_fSub : wo (fSub (.int i) (.int j)) Q ↔ Q (.int (i - j)) := y6
theorem wo_fMul : wo (fMul (.int i) (.int j)) Q ↔ mulOk i j = true ∧ Q (.int (i * j)) := wo_gd
theorem wo_fMul2 : wo (fMul2 (.int i) (.int j)) Q ↔ mulOk i j = true ∧ Q (.int (i * j)) := wo_gd
theorem wo_fMul2L : wo (fMul2 (.list xs) (.int j)) Q ↔ (decide (0 ≤ j) && decide (j < 2 ^ 63) && decide (xs.length * j.toNat ≤ sizeLine)) = true ∧ Q (.list (List.replicate j.toNat xs).flatten) := wo_gd
theorem wo_fMul2S : wo (fMul2 (.str x) (.int j)) Q ↔ (2 ≤ j ∧ j ≤ 1000 ∧ 1 ≤ x.length ∧ x.length ≤ 1000 ∧ (repS j x).length ≤ sizeLine ∧ PyData.strOk (repS j x) = true) ∧ Q (.str (repS j x)) := wo_gd
theorem wo_fMod : wo (fMod (.int i) (.int j)) Q ↔ 0 < j ∧ Q (.int (i % j)) := wo_gd
theorem wo_fFdiv : wo (fFdiv (.int i) (.int j)) Q ↔ (0 < j ∧ j < 1073741824) ∧ Q (.int (i / j)) := wo_gd
theorem wo_fPow : wo (fPow (.int i) (.int j)) Q ↔ (0 ≤ j ∧ j ≤ 1000 ∧ i.natAbs < 2 ^ 64) ∧ Q (.int (i ^ j.toNat)) := wo_gd
theorem wo_fEqI : wo (fEq (.int i) (.int j)) Q ↔ Q (.bool (decide (i = j))) := by rw [fEq_int, y6]
theorem wo_fNeI : wo (fNe (.int i) (.int j)) Q ↔ Q (.bool (!decide (i = j))) := by rw [fNe_int, y6]
theorem wo_fEqS : wo (fEq (.str x) (.str y)) Q ↔ Q (.bool (x == y)) := by rw [fEq_str, y6]
theorem wo_fNeS : wo (fNe (.str x) (.str y)) Q ↔ Q (.bool (!(x == y))) := by rw [fNe_str, y6]
theorem fEq_bool {a b : Bool} : fEq (.bool a) (.bool b) = some (.bool (a == b)) := by
  cases a <;> cases b <;> rfl
theorem fNe_bool {a b : Bool} : fNe (.bool a) (.bool b) = some (.bool (!(a == b))) := by
  cases a <;> cases b <;> rfl
theorem wo_fEqB {a b : Bool} : wo (fEq (.bool a) (.bool b)) Q ↔ Q (.bool (a == b)) := by rw [fEq_bool, y6]
theorem wo_fNeB {a b : Bool} : wo (fNe (.bool a) (.bool b)) Q ↔ Q (.bool (!(a == b))) := by rw [fNe_bool, y6]
theorem wo_fLtI : wo (fLt (.int i) (.int j)) Q ↔ Q (.bool (decide (i < j))) := y6
theorem wo_fLtS : wo (fLt (.str x) (.str y)) Q ↔ Q (.bool (decide (x.cps.toList < y.cps.toList))) := y6
theorem wo_fLe : wo (fLe (.int i) (.int j)) Q ↔ Q (.bool (decide (i ≤ j))) := y6
theorem wo_fGt : wo (fGt (.int i) (.int j)) Q ↔ Q (.bool (decide (j < i))) := y6
theorem wo_fGe : wo (fGe (.int i) (.int j)) Q ↔ Q (.bool (decide (j ≤ i))) := y6
theorem wo_fIsN : wo (fIs d .none) Q ↔ Q (.bool (isNone d)) := y6
theorem wo_fIsNotN : wo (fIsNot d .none) Q ↔ Q (.bool (!isNone d)) := y6
theorem wo_fIsB {a b : Bool} : wo (fIs (.bool a) (.bool b)) Q ↔ Q (.bool (decide (a = b))) := y6
theorem wo_fIsNotB {a b : Bool} : wo (fIsNot (.bool a) (.bool b)) Q ↔ Q (.bool (!decide (a = b))) := y6
theorem isNone_non : isNone .none = true := rfl
theorem isNone_bool {b} : isNone (.bool b) = false := rfl
theorem isNone_int {b} : isNone (.int b) = false := rfl
theorem isNone_str {b} : isNone (.str b) = false := rfl
theorem isNone_list {b} : isNone (.list b) = false := rfl
theorem isNone_tuple {b} : isNone (.tuple b) = false := rfl
def kBo (Q : D → Prop) : Bool → Prop := fun b => Q (.bool b)
theorem kBo_ap {b} : kBo Q b ↔ Q (.bool b) := Iff.rfl
def kBn (Q : D → Prop) : Bool → Prop := fun b => Q (.bool (!b))
theorem kBn_ap {b} : kBn Q b ↔ Q (.bool (!b)) := Iff.rfl
theorem wo_fIn {e : D} : wo (fIn d e) Q ↔ wo (inD d e) (kBo Q) := by
  unfold fIn kBo; rcases inD d e with _ | b <;> simp [y7, y6]
theorem wo_fNotIn {e : D} : wo (fNotIn d e) Q ↔ wo (inD d e) (kBn Q) := by
  unfold fNotIn kBn; rcases inD d e with _ | b <;> simp [y7, y6]
theorem wo_inL {Q : Bool → Prop} : wo (inD d (.list ds)) Q ↔ (flatD d || flatD (.list ds)) = true ∧ Q (ds.any fun y => PyData.eqv y d) := wo_gd
theorem wo_inT {Q : Bool → Prop} : wo (inD d (.tuple ds)) Q ↔ (flatD d || flatD (.tuple ds)) = true ∧ Q (ds.any fun y => PyData.eqv y d) := wo_gd
theorem wo_inS1 {c : Nat} {z : Str} {Q : Bool → Prop} : wo (inD (.str ⟨#[c]⟩) (.str z)) Q ↔ Q (decide (c ∈ z.cps.toList)) := y6
theorem wo_fIxL : wo (fIx (.list ds) (.int i)) Q ↔ wo (atI ds i) Q := Iff.rfl
theorem wo_fIxT : wo (fIx (.tuple ds) (.int i)) Q ↔ wo (atI ds i) Q := Iff.rfl
def kSg (Q : D → Prop) : Nat → Prop := fun c => Q (.str ⟨#[c]⟩)
theorem kSg_ap {c} : kSg Q c ↔ Q (.str ⟨#[c]⟩) := Iff.rfl
theorem wo_fIxS : wo (fIx (.str x) (.int i)) Q ↔ x.length ≤ sizeLine ∧ wo (atI x.cps.toList i) (kSg Q) := by
  unfold kSg
  simp only [fIx]
  rw [wo_guard]
  refine and_congr Iff.rfl ?_
  rcases L2.atI x.cps.toList i with _ | c <;> simp [y7, y6]
theorem wo_fLenL : wo (fLen [.list ds]) Q ↔ Q (.int ds.length) := y6
theorem wo_fLenT : wo (fLen [.tuple ds]) Q ↔ Q (.int ds.length) := y6
theorem wo_fLenS : wo (fLen [.str x]) Q ↔ x.length ≤ sizeLine ∧ Q (.int x.length) := wo_gd
theorem wo_fIntI : wo (fInt [.int i]) Q ↔ Q (.int i) := y6
theorem wo_fIntB {b : Bool} : wo (fInt [.bool b]) Q ↔ Q (.int (if b then 1 else 0)) := y6
theorem wo_fAbs : wo (fAbs [.int i]) Q ↔ Q (.int (if i < 0 then -i else i)) := y6
theorem wo_fMin : wo (fMin [.int i, .int j]) Q ↔ Q (.int (if j < i then j else i)) := y6
theorem wo_fMax : wo (fMax [.int i, .int j]) Q ↔ Q (.int (if j > i then j else i)) := y6
theorem wo_fTupleL : wo (fTuple [.list ds]) Q ↔ Q (.tuple ds) := y6
theorem wo_fTupleT : wo (fTuple [.tuple ds]) Q ↔ Q (.tuple ds) := y6
def kAll (Q : D → Prop) : List Bool → Prop := fun bs => Q (.bool (bs.all id))
theorem kAll_ap {bs} : kAll Q bs ↔ Q (.bool (bs.all id)) := Iff.rfl
theorem wo_fAll : wo (fAll [.list ds]) Q ↔ wo (boolsOf ds) (kAll Q) := by
  unfold fAll kAll; simp only; rcases boolsOf ds with _ | bs <;> simp [y7, y6]
def kAny (Q : D → Prop) : List Bool → Prop := fun bs => Q (.bool (bs.any id))
theorem kAny_ap {bs} : kAny Q bs ↔ Q (.bool (bs.any id)) := Iff.rfl
theorem wo_fAny : wo (fAny [.list ds]) Q ↔ wo (boolsOf ds) (kAny Q) := by
  unfold fAny kAny; simp only; rcases boolsOf ds with _ | bs <;> simp [y7, y6]
theorem wo_trN {Q : Bool → Prop} : wo (truth .none) Q ↔ Q false := y6
theorem wo_trB {b : Bool} {Q : Bool → Prop} : wo (truth (.bool b)) Q ↔ Q b := y6
theorem wo_trI {Q : Bool → Prop} : wo (truth (.int i)) Q ↔ Q (i != 0) := y6
theorem wo_trS {Q : Bool → Prop} : wo (truth (.str x)) Q ↔ x.length ≤ sizeLine ∧ Q ((x.length : Int) != 0) := wo_gd
theorem wo_trL {Q : Bool → Prop} : wo (truth (.list ds)) Q ↔ Q (!ds.isEmpty) := y6
theorem wo_trT {Q : Bool → Prop} : wo (truth (.tuple ds)) Q ↔ Q (!ds.isEmpty) := y6
theorem wo_fCutL {l h : Option Int} : wo (fCut (.list ds) l h) Q ↔ Q (.list (cutG ds l h)) := y6
theorem wo_fCutT {l h : Option Int} : wo (fCut (.tuple ds) l h) Q ↔ Q (.tuple (cutG ds l h)) := y6
theorem wo_fCutS {l h : Option Int} : wo (fCut (.str x) l h) Q ↔ x.length ≤ sizeLine ∧ Q (.str (cutS x l h)) := wo_gd
theorem wo_fStr : wo (fStr [.int i]) Q ↔ i.natAbs.log2 < 1920 ∧ Q (.str (Str.ofString (toString i))) := wo_gd
theorem wo_gAdd : wo (gAdd (.int i) (.int j)) Q ↔ Q (.int (i + j)) := y6
theorem wo_gSub : wo (gSub (.int i) (.int j)) Q ↔ Q (.int (i - j)) := y6
theorem textsOf_nil : textsOf [] = some [] := rfl
def kTx (x : Str) (Q : List Str → Prop) : List Str → Prop := fun xs => Q (x :: xs)
theorem kTx_ap {x : Str} {Q : List Str → Prop} {xs} : kTx x Q xs ↔ Q (x :: xs) := Iff.rfl
theorem wo_txC {Q : List Str → Prop} : wo (textsOf (.str x :: ds)) Q ↔ wo (textsOf ds) (kTx x Q) := by
  rw [textsOf]; unfold kTx; rcases textsOf ds with _ | bs <;> simp [y7, y6]
theorem textsOf_map : ∀ zs : List Str, textsOf (zs.map PyData.str) = some zs
  | [] => rfl
  | z :: zs => by rw [List.map_cons, textsOf, textsOf_map zs]
end
theorem flatD_str {x} : flatD (.str x) = true := rfl
theorem flatD_int {x} : flatD (.int x) = true := rfl
theorem flatD_bool {x} : flatD (.bool x) = true := rfl
theorem flatD_none : flatD .none = true := rfl
theorem eqv_str {a b : Str} : PyData.eqv (.str a) (.str b) = (a == b) := rfl
theorem sizeLine_val : sizeLine = 16777216 := by decide
theorem at3 {α : Type} (x y z u : α) (xs : List α) : atI (x :: y :: z :: u :: xs) 3 = some u := atI_nat (j := 3) rfl
theorem at4 {α : Type} (x y z u v : α) (xs : List α) : atI (x :: y :: z :: u :: v :: xs) 4 = some v := atI_nat (j := 4) rfl
theorem ixN_in {n : Nat} {k : Int} (h0 : 0 ≤ k) (h1 : k < n) : ixN n k = some k.toNat := by unfold ixN; rw [if_pos h0, if_pos h1]
theorem ixN_last {n : Nat} (h : 0 < n) : ixN n (-1) = some (n - 1) := by
  unfold ixN
  rw [if_neg (by omega), if_pos (by omega)]
  congr 1
  omega
theorem atI_in {α : Type} {ds : List α} {k : Int} (h0 : 0 ≤ k) (h1 : k < ds.length) : ∃ x, atI ds k = some x ∧ ds[k.toNat]? = some x ∧ x ∈ ds := by
  have hk : k.toNat < ds.length := by omega
  refine ⟨ds[k.toNat], ?_, List.getElem?_eq_getElem hk, List.getElem_mem hk⟩
  have := atI_nat (List.getElem?_eq_getElem hk)
  rwa [Int.toNat_of_nonneg h0] at this
theorem ofString_inj {a b : String} : Str.ofString a = Str.ofString b ↔ a = b := by
  constructor
  · intro h
    rw [Str.ofString_eq_toList, Str.ofString_eq_toList] at h
    have h1 : a.toList.map Char.toNat = b.toList.map Char.toNat := by
      have := congrArg (fun s : Str => s.cps.toList) h
      simpa using this
    have h2 : a.toList = b.toList := by
      have inj : ∀ c d : Char, c.toNat = d.toNat → c = d := fun c d e => Char.ext (UInt32.toNat_inj.mp e)
      clear h
      revert h1
      generalize a.toList = l
      generalize b.toList = m
      intro h1
      induction l generalizing m with
      | nil => cases m with
        | nil => rfl
        | cons d m => cases h1
      | cons c l ih => cases m with
        | nil => cases h1
        | cons d m =>
          simp only [List.map_cons, List.cons.injEq] at h1
          rw [inj c d h1.1, ih m h1.2]
    exact String.toList_inj.mp h2
  · rintro rfl; rfl
theorem ofString_beq {a b : String} : (Str.ofString a == Str.ofString b) = (a == b) := by
  by_cases h : a = b
  · subst h; simp
  · have : Str.ofString a ≠ Str.ofString b := fun e => h (ofString_inj.mp e)
    rw [beq_eq_false_iff_ne.mpr this, beq_eq_false_iff_ne.mpr h]
end DL
namespace HL
open PySem PySem.Spec L2 DL
abbrev io_tupled : List Nat := [0]
def b_tupled (tupled : FSem) : SS := (q6 (sRet (mIf (mTru (.ex (mIsi (.sl 0) (isT2 "list" "tuple")))) (mCall true [(.ex (listOf (nLc (iData (.sl 0)) (.nm 1) tTrue (mFn tupled [(.sl 1)]))))] fTuple) (rVar io_tupled 0))) sNext)
abbrev r_tupled (tupled : FSem) : FSem := runF 2 io_tupled (b_tupled tupled)
abbrev io_has_link : List Nat := [0]
def b_has_link : SS := (q6 (sRet (mCall true [(.ex (listOf (nLc (iData (.ex (mBin true (.sl 0) (.ex (j8 (.int 2))) fIx))) (.nm 1) tTrue (mBin true (.sl 1) (.ex (j8 (.tuple ([Str.ofString "hard", Str.ofString "link"].map PyData.str)))) fIn))))] fAny)) sNext)
abbrev r_has_link : FSem := runF 2 io_has_link (b_has_link)
abbrev io_tags : List Nat := [0]
def b_tags : SS := (q6 (sOwn 1 (nLst j7)) (q6 (sFor (iData (.sl 0)) (.nm 2) (q6 (sExpr (mExtend 1 (mIf (tBin true (.ex (mBin true (.sl 2) (.ex (j8 (.int 0))) fIx)) (.ex (j8 (.str (Str.ofString "put")))) fEq) (listOf (nLc (iData (.ex (mBin true (.sl 2) (.ex (j8 (.int 1))) fIx))) (.nm 3) tTrue (mBin true (.sl 3) (.ex (j8 (.int 0))) fIx))) (listOf (nLst j7))))) sNext)) (q6 (sRet (mCall true [(.sl 1)] fTuple)) sNext)))
abbrev r_tags : FSem := runF 4 io_tags (b_tags)
abbrev io_law_take : List Nat := [0, 1]
def b_law_take : SS := (q6 (sIf (tBin true (.ex (mBin true (.sl 0) (.ex (j8 (.int 0))) fIx)) (.ex (j8 (.int 0))) fGt) (q6 (sSet 2 (mBin false (.ex (mCall true [(.ex (mBin true (.sl 0) (.ex (j8 (.int 0))) fIx))] fInt)) (.sl 1) fMod)) (q6 (sPut 0 (j8 (.int 0)) (mBin false (.ex (mBin true (.sl 0) (.ex (j8 (.int 0))) fIx)) (.sl 1) fFdiv)) (q6 (sRet (rVar io_law_take 2)) sNext))) sNext) (q6 (sPut 0 (j8 (.int 2)) (mBin false (.ex (mBin true (.sl 0) (.ex (j8 (.int 2))) fIx)) (.ex (j8 (.int 1))) fAdd)) (q6 (sSet 3 (mBin false (.ex (mCall true [(.ex (mBin false (.ex (mBin false (.ex (mBin true (.sl 0) (.ex (j8 (.int 1))) fIx)) (.ex (mBin false (.ex (j8 (.int 48271))) (.ex (mBin true (.sl 0) (.ex (j8 (.int 2))) fIx)) fMul2)) fAdd)) (.ex (mBin false (.ex (j8 (.int 39373))) (.ex (mBin true (.sl 0) (.ex (j8 (.int 2))) fIx)) fAdd)) fMul2))] fInt)) (.ex (j8 (.int 2147483647))) fMod)) (q6 (sSet 4 (mBin false (.ex (mBin false (.ex (mCall true [(.sl 3)] fInt)) (.ex (j8 (.int 40009))) fMod)) (.ex (j8 (.int 7))) fAdd)) (q6 (sSet 5 (mBin false (.ex (mCall true [(.ex (mBin false (.ex (mBin false (.ex (mBin false (.sl 3) (.ex (mBin true (.sl 0) (.ex (j8 (.int 2))) fIx)) fAdd)) (.ex (mBin false (.ex (mBin true (.sl 0) (.ex (j8 (.int 1))) fIx)) (.ex (j8 (.int 1000003))) fFdiv)) fAdd)) (.sl 4) fMul2))] fInt)) (.ex (j8 (.int 2147483629))) fMod)) (q6 (sRet (mBin false (.ex (mCall true [(.ex (mBin false (.ex (mBin false (.ex (mCall true [(.ex (mBin false (.ex (mBin false (.sl 5) (.ex (j8 (.int 48271))) fMul2)) (.sl 3) fAdd))] fInt)) (.ex (j8 (.int 2147483587))) fMod)) (.ex (j8 (.int 64))) fFdiv))] fInt)) (.sl 1) fMod)) sNext))))))
abbrev r_law_take : FSem := runF 6 io_law_take (b_law_take)
abbrev io_law_of : List Nat := [0, 1]
def b_law_of (law_take : FSem) : SS := (q6 (sRet (mBin true (.sl 1) (.ex (mFn law_take [(.sl 0), (.ex (mCall true [(.sl 1)] fLen))])) fIx)) sNext)
abbrev r_law_of (law_take : FSem) : FSem := runF 2 io_law_of (b_law_of law_take)
abbrev io_law_name : List Nat := [0]
def b_law_name (law_take : FSem) (law_of : FSem) : SS := (q6 (sIf (tBin true (.ex (mFn law_take [(.sl 0), (.ex (j8 (.int 3)))])) (.ex (j8 (.int 0))) fEq) (q6 (sSet 1 (j8 (.str (Str.ofString "link late kept yes no slots pipes ring nop put text all turn reap slot good")))) (q6 (sRet (mFn law_of [(.sl 0), (.ex (listOf (nSplit (mVar 1) (j8 (.str (Str.ofString " "))))))])) sNext)) sNext) (q6 (sRet (mJoin (j8 (.str (Str.ofString ""))) (.ex (listOf (nLc (iRange1 (mBin false (.ex (j8 (.int 1))) (.ex (mFn law_take [(.sl 0), (.ex (j8 (.int 8)))])) fAdd)) (.nm 2) tTrue (mFn law_of [(.sl 0), (.ex (j8 (.str (Str.ofString "abcdefghijklmnopqrstuvwxyz"))))])))))) sNext))
abbrev r_law_name (law_take : FSem) (law_of : FSem) : FSem := runF 3 io_law_name (b_law_name law_take law_of)
abbrev io_law_names : List Nat := [0, 1]
def b_law_names (law_name : FSem) : SS := (q6 (sOwn 2 (nLst j7)) (q6 (sFor (iRange1 (mVar 1)) (.nm 3) (q6 (sSet 4 (mBin false (.ex (listOf (nLc (iRange1 (j8 (.int 2))) (.nm 5) tTrue (mFn law_name [(.sl 0)])))) (.ex (listOf (nLc (iData (.ex (j8 (.str (Str.ofString "abcdefghijklmnopqrstuvwxyz"))))) (.nm 6) tTrue (mBin false (.sl 6) (.ex (j8 (.int 8))) fMul2)))) fAdd)) (q6 (sExpr (mAppend 2 (mBin true (.ex (listOf (nLc (iData (.sl 4)) (.nm 7) (tBin true (.sl 7) (.sl 2) fNotIn) (mVar 7)))) (.ex (j8 (.int 0))) fIx))) sNext))) (q6 (sRetO 2) sNext)))
abbrev r_law_names (law_name : FSem) : FNew := DL.runN 8 io_law_names (b_law_names law_name)
abbrev io_law_named_setup : List Nat := [0, 1]
def b_law_named_setup (law_take : FSem) (law_of : FSem) (law_names : FNew) : SS := (q6 (sSet 2 (mCall true [(.ex (listOf (nSort (.ex (listOf (nFn law_names [(.sl 0), (.ex (mBin false (.sl 1) (.ex (mFn law_take [(.sl 0), (.ex (mBin false (.ex (j8 (.int 5))) (.sl 1) fSub))])) fAdd))]))))))] fTuple)) (q6 (sSet 3 (listOf (nLc (iRange1 (mFn law_take [(.sl 0), (.ex (j8 (.int 6)))])) (.nm 4) tTrue (mFn law_of [(.sl 0), (.ex (mBin false (.sl 2) (.ex (mTup (j6 (j8 .none) j7))) fAdd))])))) (q6 (sRet (mTup (j6 (mBin false (.ex (j8 (.int 1))) (.ex (mFn law_take [(.sl 0), (.ex (j8 (.int 6)))])) fAdd) (j6 (mBin false (.ex (j8 (.int 1))) (.ex (mFn law_take [(.sl 0), (.ex (j8 (.int 8)))])) fAdd) (j6 (mVar 2) (j6 (mCall true [(.sl 3)] fTuple) j7)))))) sNext)))
abbrev r_law_named_setup (law_take : FSem) (law_of : FSem) (law_names : FNew) : FSem := runF 5 io_law_named_setup (b_law_named_setup law_take law_of law_names)
abbrev io_law_place : List Nat := [0, 1]
def b_law_place (law_take : FSem) (law_of : FSem) : SS := (q6 (sUnp (.tup (.cons (.nm 2) (.cons (.nm 3) .nil))) (mCut (.sl 1) (some (j8 (.int 2))) none)) (q6 (sIf (tAndM (tBin true (.sl 3) (.ex (mTup j7)) fNe) (tBin true (.ex (mFn law_take [(.sl 0), (.ex (j8 (.int 2)))])) (.ex (j8 (.int 0))) fEq)) (q6 (sRet (mTup (j6 (j8 (.str (Str.ofString "slot"))) (j6 (mFn law_take [(.sl 0), (.ex (mCall true [(.sl 3)] fLen))]) j7)))) sNext) sNext) (q6 (sRet (mTup (j6 (j8 (.str (Str.ofString "pipe"))) (j6 (mFn law_of [(.sl 0), (.sl 2)]) j7)))) sNext)))
abbrev r_law_place (law_take : FSem) (law_of : FSem) : FSem := runF 4 io_law_place (b_law_place law_take law_of)
abbrev io_law_letters : List Nat := [0, 1]
def b_law_letters (law_take : FSem) (law_of : FSem) : SS := (q6 (sRet (mJoin (j8 (.str (Str.ofString ""))) (.ex (listOf (nLc (iRange1 (mBin false (.ex (j8 (.int 1))) (.ex (mFn law_take [(.sl 0), (.sl 1)])) fAdd)) (.nm 2) tTrue (mFn law_of [(.sl 0), (.ex (j8 (.str (Str.ofString "abc"))))])))))) sNext)
abbrev r_law_letters (law_take : FSem) (law_of : FSem) : FSem := runF 3 io_law_letters (b_law_letters law_take law_of)
abbrev io_law_deed : List Nat := [0, 1, 2]
def b_law_deed (law_take : FSem) (law_of : FSem) (law_place : FSem) (law_letters : FSem) : SS := (q6 (sPar [3, 4] [.d (mFn law_take [(.sl 0), (.ex (j8 (.int 20)))]), .d (mFn law_place [(.sl 0), (.sl 1)])]) (q6 (sIf (tBin true (.sl 3) (.ex (j8 (.int 5))) fLt) (q6 (sRet (mTup (j6 (mIf (tBin true (.sl 3) (.ex (j8 (.int 4))) fLt) (j8 (.str (Str.ofString "read"))) (j8 (.str (Str.ofString "reads")))) (j6 (mVar 4) (j6 (mBin false (.ex (j8 (.int 1))) (.ex (mFn law_take [(.sl 0), (.ex (j8 (.int 3)))])) fAdd) j7))))) sNext) sNext) (q6 (sIf (tBin true (.sl 3) (.ex (j8 (.int 8))) fLt) (q6 (sRet (mTup (j6 (j8 (.str (Str.ofString "write"))) (j6 (mVar 4) (j6 (mFn law_letters [(.sl 0), (.ex (j8 (.int 3)))]) j7))))) sNext) sNext) (q6 (sIf (tBin true (.sl 3) (.ex (j8 (.int 8))) fEq) (q6 (sRet (mTup (j6 (j8 (.str (Str.ofString "shut"))) (j6 (mVar 4) j7)))) sNext) sNext) (q6 (sIf (tBin true (.sl 3) (.ex (j8 (.int 11))) fLt) (q6 (sRet (mTup (j6 (j8 (.str (Str.ofString "timeout"))) (j6 (mFn law_take [(.sl 0), (.ex (j8 (.int 9)))]) j7)))) sNext) sNext) (q6 (sIf (tBin true (.sl 3) (.ex (j8 (.int 13))) fLt) (q6 (sRet (mTup (j6 (j8 (.str (Str.ofString "work"))) (j6 (mBin true (.ex (mFn law_take [(.sl 0), (.ex (j8 (.int 3)))])) (.ex (j8 (.int 0))) fGt) j7)))) sNext) sNext) (q6 (sIf (tAndM (tBin true (.sl 3) (.ex (j8 (.int 15))) fLt) (tBin true (.ex (mBin true (.sl 1) (.ex (j8 (.int 3))) fIx)) (.ex (mTup j7)) fNe)) (q6 (sRet (mTup (j6 (j8 (.str (Str.ofString "update"))) (j6 (mFn law_take [(.sl 0), (.ex (mCall true [(.ex (mBin true (.sl 1) (.ex (j8 (.int 3))) fIx))] fLen))]) (j6 (mFn law_of [(.sl 0), (.ex (mBin false (.ex (mBin true (.sl 1) (.ex (j8 (.int 2))) fIx)) (.ex (mTup (j6 (j8 .none) j7))) fAdd))]) j7))))) sNext) sNext) (q6 (sIf (tAndM (tBin true (.sl 3) (.ex (j8 (.int 18))) fLt) (tBin true (.sl 2) (.ex (listOf (nLst j7))) fNe)) (q6 (sRet (mTup (j6 (j8 (.str (Str.ofString "cancel"))) (j6 (mFn law_of [(.sl 0), (.sl 2)]) j7)))) sNext) sNext) (q6 (sRet (mIf (tBin true (.sl 3) (.ex (j8 (.int 18))) fEq) (mTup (j6 (j8 (.str (Str.ofString "cancelall"))) j7)) (mTup (j6 (j8 (.str (Str.ofString "nop"))) j7)))) sNext)))))))))
abbrev r_law_deed (law_take : FSem) (law_of : FSem) (law_place : FSem) (law_letters : FSem) : FSem := runF 5 io_law_deed (b_law_deed law_take law_of law_place law_letters)
abbrev io_law_ended : List Nat := [0]
def b_law_ended : SS := (q6 (sUnp (.tup (.cons (.nm 1) (.cons (.nm 2) (.cons (.nm 3) .nil)))) (mBin true (.sl 0) (.ex (mNeg (j8 (.int 1)))) fIx)) (q6 (sIf (tBin true (.ex (mBin true (.sl 2) (.ex (j8 (.int 0))) fIx)) (.ex (j8 (.str (Str.ofString "linktimeout")))) fNe) (q6 (sPut 0 (mNeg (j8 (.int 1))) (mTup (j6 (mVar 1) (j6 (mVar 2) (j6 (mCall true [(.ex (listOf (nLc (iData (.sl 3)) (.nm 4) (tBin true (.sl 4) (.ex (mTup (j6 (j8 (.str (Str.ofString "link"))) (j6 (j8 (.str (Str.ofString "hard"))) j7)))) fNotIn) (mVar 4))))] fTuple) j7))))) sNext) sNext) (q6 (sRet (mCall true [(.sl 0)] fTuple)) sNext)))
abbrev r_law_ended : FSem := runF 5 io_law_ended (b_law_ended)
abbrev io_law_lot : List Nat := [0, 1, 2, 3, 4]
def b_law_lot (law_take : FSem) (law_deed : FSem) (law_ended : FSem) : SS := (q6 (sPar [5, 6] [.n (nLst j7), .d (j8 (.bool true))]) (q6 (sFor (iRange1 (mBin false (.ex (j8 (.int 1))) (.ex (mFn law_take [(.sl 0), (.sl 4)])) fAdd)) (.nm 7) (q6 (sPar [8, 9] [.d (mPop 2 (j8 (.int 0))), .n (nLst j7)]) (q6 (sSet 10 (mFn law_deed [(.sl 0), (.sl 1), (.sl 3)])) (q6 (sExpr (mAppend 3 (mVar 8))) (q6 (sIf (tAndM (mTru (.sl 6)) (tBin true (.ex (mFn law_take [(.sl 0), (.ex (j8 (.int 5)))])) (.ex (j8 (.int 0))) fEq)) (q6 (sExpr (mAppend 9 (j8 (.str (Str.ofString "drain"))))) sNext) sNext) (q6 (sIf (tAndM (tBin true (.ex (mBin true (.sl 10) (.ex (j8 (.int 0))) fIx)) (.ex (mTup (j6 (j8 (.str (Str.ofString "read"))) (j6 (j8 (.str (Str.ofString "reads"))) j7)))) fIn) (tBin true (.ex (mFn law_take [(.sl 0), (.ex (j8 (.int 4)))])) (.ex (j8 (.int 0))) fEq)) (q6 (sExpr (mAppend 9 (j8 (.str (Str.ofString "pick"))))) sNext) sNext) (q6 (sIf (tAndM (tBin true (.sl 10) (.ex (mTup (j6 (mTup (j6 (j8 (.str (Str.ofString "nop"))) j7)) (j6 (mTup (j6 (j8 (.str (Str.ofString "work"))) (j6 (j8 (.bool true)) j7))) j7)))) fIn) (tBin true (.ex (mFn law_take [(.sl 0), (.ex (j8 (.int 4)))])) (.ex (j8 (.int 0))) fEq)) (q6 (sExpr (mAppend 9 (j8 (.str (Str.ofString "silent"))))) sNext) sNext) (q6 (sSet 11 (mFn law_take [(.sl 0), (.ex (j8 (.int 6)))])) (q6 (sIf (tBin true (.sl 11) (.ex (j8 (.int 3))) fLt) (q6 (sExpr (mAppend 9 (mIf (tBin true (.sl 11) (.ex (j8 (.int 0))) fEq) (j8 (.str (Str.ofString "hard"))) (j8 (.str (Str.ofString "link")))))) sNext) sNext) (q6 (sExpr (mAppend 5 (mTup (j6 (mVar 8) (j6 (mVar 10) (j6 (mCall true [(.ex (listOf (nSort (.sl 9))))] fTuple) j7)))))) (q6 (sSet 6 (mBin true (.sl 11) (.ex (j8 (.int 2))) fGt)) (q6 (sIf (tAndM (tBin true (.sl 11) (.ex (j8 (.int 3))) fLt) (tBin true (.ex (mFn law_take [(.sl 0), (.ex (j8 (.int 3)))])) (.ex (j8 (.int 0))) fEq)) (q6 (sSet 12 (mPop 2 (j8 (.int 0)))) (q6 (sExpr (mAppend 3 (mVar 12))) (q6 (sExpr (mAppend 5 (mTup (j6 (mVar 12) (j6 (mTup (j6 (j8 (.str (Str.ofString "linktimeout"))) (j6 (mFn law_take [(.sl 0), (.ex (j8 (.int 9)))]) j7))) (j6 (mTup j7) j7)))))) sNext))) sNext) sNext)))))))))))) (q6 (sRet (mFn law_ended [(.sl 5)])) sNext)))
abbrev r_law_lot (law_take : FSem) (law_deed : FSem) (law_ended : FSem) : FSem := runF 13 io_law_lot (b_law_lot law_take law_deed law_ended)
abbrev io_law_mixed : List Nat := [0, 1]
def b_law_mixed (law_take : FSem) (law_mixed : FSem) : SS := (q6 (sIf (mNot (mTru (.ex (mIsi (.sl 1) (isT2 "list" "tuple"))))) (q6 (sRet (rVar io_law_mixed 1)) sNext) sNext) (q6 (sSet 2 (listOf (nLc (iData (.sl 1)) (.nm 3) tTrue (mFn law_mixed [(.sl 0), (.sl 3)])))) (q6 (sRet (mIf (tBin true (.ex (mFn law_take [(.sl 0), (.ex (j8 (.int 2)))])) (.ex (j8 (.int 0))) fEq) (rVar io_law_mixed 2) (mCall true [(.sl 2)] fTuple))) sNext)))
abbrev r_law_mixed (law_take : FSem) (law_mixed : FSem) : FSem := runF 4 io_law_mixed (b_law_mixed law_take law_mixed)
abbrev io_law_lists : List Nat := [0]
def b_law_lists (law_lists : FSem) : SS := (q6 (sRet (mIf (mTru (.ex (mIsi (.sl 0) (isT2 "list" "tuple")))) (listOf (nLc (iData (.sl 0)) (.nm 1) tTrue (mFn law_lists [(.sl 1)]))) (rVar io_law_lists 0))) sNext)
abbrev r_law_lists (law_lists : FSem) : FSem := runF 2 io_law_lists (b_law_lists law_lists)
abbrev io_law_same : List Nat := [0, 1]
def b_law_same (law_same : FSem) : SS := (q6 (sIf (mTru (.ex (mIsi (.sl 1) (isT2 "list" "tuple")))) (q6 (sIf (tOrM (tBin true (.ex (mIsi (.sl 0) fun d => isT d "list")) (.ex (mIsi (.sl 1) fun d => isT d "list")) fNe) (tBin true (.ex (mIsi (.sl 0) fun d => isT d "tuple")) (.ex (mIsi (.sl 1) fun d => isT d "tuple")) fNe)) (q6 (sRet (j8 (.bool false))) sNext) sNext) (q6 (sRet (mAnd (mBin true (.ex (mCall true [(.sl 0)] fLen)) (.ex (mCall true [(.sl 1)] fLen)) fEq) (mCall true [(.ex (listOf (nLc (iZip (.sl 0) (.sl 1)) (.tup (.cons (.nm 3) (.cons (.nm 4) .nil))) tTrue (mFn law_same [(.sl 3), (.sl 4)]))))] fAll))) sNext)) sNext) (q6 (sIf (tOrM (tBin true (.sl 1) (.ex (j8 .none)) fIs) (mTru (.ex (mIsi (.sl 1) (isT2 "bool" "str"))))) (q6 (sSet 2 (mAnd (mBin true (.ex (mIsi (.sl 0) fun d => isT d "bool")) (.ex (mIsi (.sl 1) fun d => isT d "bool")) fEq) (mBin true (.ex (mBin true (.sl 0) (.ex (j8 .none)) fIs)) (.ex (mBin true (.sl 1) (.ex (j8 .none)) fIs)) fEq))) (q6 (sRet (mAnd (mBin true (.sl 0) (.sl 1) fEq) (mVar 2))) sNext)) sNext) (q6 (sRet (mAnd (mIsi (.sl 0) fun d => isT d "int") (mAnd (mNotV (mIsi (.sl 0) fun d => isT d "bool")) (mBin true (.sl 0) (.sl 1) fEq)))) sNext)))
abbrev r_law_same (law_same : FSem) : FSem := runF 5 io_law_same (b_law_same law_same)
abbrev io_law_event : List Nat := [0, 1, 2, 3, 4]
def b_law_event (law_take : FSem) (law_of : FSem) (law_letters : FSem) (law_lot : FSem) : SS := (q6 (sSet 5 (mFn law_take [(.sl 0), (.ex (j8 (.int 12)))])) (q6 (sIf (tAndM (tBin true (.sl 5) (.ex (j8 (.int 4))) fLt) (tBin true (.ex (mCall true [(.sl 2)] fLen)) (.ex (j8 (.int 9))) fGt)) (q6 (sRet (mTup (j6 (j8 (.str (Str.ofString "put"))) (j6 (mFn law_lot [(.sl 0), (.sl 1), (.sl 2), (.sl 3), (.ex (j8 (.int 4)))]) j7)))) sNext) sNext) (q6 (sIf (tBin true (.sl 5) (.ex (j8 (.int 6))) fLt) (q6 (sRet (mTup (j6 (j8 (.str (Str.ofString "give"))) (j6 (mFn law_of [(.sl 0), (.ex (mBin true (.sl 1) (.ex (j8 (.int 2))) fIx))]) (j6 (mFn law_letters [(.sl 0), (.ex (j8 (.int 3)))]) j7))))) sNext) sNext) (q6 (sIf (tBin true (.sl 5) (.ex (j8 (.int 6))) fEq) (q6 (sRet (mTup (j6 (j8 (.str (Str.ofString "take"))) (j6 (mFn law_of [(.sl 0), (.ex (mBin true (.sl 1) (.ex (j8 (.int 2))) fIx))]) (j6 (mBin false (.ex (j8 (.int 1))) (.ex (mFn law_take [(.sl 0), (.ex (j8 (.int 3)))])) fAdd) j7))))) sNext) sNext) (q6 (sIf (tBin true (.sl 5) (.ex (j8 (.int 9))) fLt) (q6 (sRet (mTup (j6 (j8 (.str (Str.ofString "reap"))) (j6 (mBin false (.ex (j8 (.int 1))) (.ex (mFn law_take [(.sl 0), (.ex (j8 (.int 4)))])) fAdd) j7)))) sNext) sNext) (q6 (sIf (tBin true (.sl 5) (.ex (j8 (.int 9))) fEq) (q6 (sPut 4 (j8 (.int 0)) (mBin false (.ex (mBin false (.ex (mBin true (.sl 4) (.ex (j8 (.int 0))) fIx)) (.ex (j8 (.int 1))) fAdd)) (.ex (mFn law_take [(.sl 0), (.ex (j8 (.int 4)))])) fAdd)) (q6 (sRet (mTup (j6 (j8 (.str (Str.ofString "clock"))) (j6 (mBin true (.sl 4) (.ex (j8 (.int 0))) fIx) j7)))) sNext)) sNext) (q6 (sRet (mIf (tBin true (.sl 5) (.ex (j8 (.int 10))) fEq) (mTup (j6 (j8 (.str (Str.ofString "lend"))) (j6 (mBin false (.ex (j8 (.int 1))) (.ex (mFn law_take [(.sl 0), (.ex (j8 (.int 2)))])) fAdd) j7))) (mTup (j6 (j8 (.str (Str.ofString "quiet"))) j7)))) sNext)))))))
abbrev r_law_event (law_take : FSem) (law_of : FSem) (law_letters : FSem) (law_lot : FSem) : FSem := runF 6 io_law_event (b_law_event law_take law_of law_letters law_lot)
abbrev io_law_named_script : List Nat := [0, 1, 2]
def b_law_named_script (law_take : FSem) (law_names : FNew) (law_lot : FSem) (law_event : FSem) : SS := (q6 (sPar [3, 4, 5] [.n (nFn law_names [(.sl 0), (.ex (j8 (.int 24)))]), .n (nLst j7), .n (nLst (j6 (j8 (.int 0)) j7))]) (q6 (sOwn 6 (nLst (j6 (mTup (j6 (j8 (.str (Str.ofString "put"))) (j6 (mFn law_lot [(.sl 0), (.sl 1), (.sl 3), (.sl 4), (.ex (j8 (.int 4)))]) j7))) j7))) (q6 (sFor (iRange1 (mFn law_take [(.sl 0), (.ex (mBin false (.sl 2) (.ex (j8 (.int 1))) fAdd))])) (.nm 7) (q6 (sExpr (mAppend 6 (mFn law_event [(.sl 0), (.sl 1), (.sl 3), (.sl 4), (.sl 5)]))) sNext)) (q6 (sIf (tBin true (.ex (mFn law_take [(.sl 0), (.ex (j8 (.int 6)))])) (.ex (j8 (.int 0))) fEq) (q6 (sExpr (mInsert 6 (mFn law_take [(.sl 0), (.ex (mBin false (.ex (mCall true [(.sl 6)] fLen)) (.ex (j8 (.int 1))) fAdd))]) (mTup (j6 (j8 (.str (Str.ofString "stop"))) j7)))) sNext) sNext) (q6 (sRet (mCall true [(.sl 6)] fTuple)) sNext)))))
abbrev r_law_named_script (law_take : FSem) (law_names : FNew) (law_lot : FSem) (law_event : FSem) : FSem := runF 8 io_law_named_script (b_law_named_script law_take law_names law_lot law_event)
abbrev io_law_box : List Nat := [0, 1]
def b_law_box : SS := (q6 (sSet 2 (mIf (tBin true (.sl 1) (.ex (mCall true [(.sl 0)] fLen)) fLt) (mBin true (.sl 0) (.sl 1) fIx) (j8 (.int 0)))) (q6 (sRetN (nLst (j6 (mBin false (.ex (mCall true [(.sl 2)] fAbs)) (.ex (mCall true [(.ex (mBin true (.ex (mCall true [(.sl 2)] fAbs)) (.ex (mBin false (.ex (j8 (.int 10))) (.ex (j8 (.int 18))) fPow)) fGe))] fInt)) fMul2) (j6 (mBin false (.ex (mBin false (.ex (mBin false (.ex (mCall true [(.sl 2)] fInt)) (.ex (j8 (.int 2305843009213693951))) fMod)) (.ex (mBin false (.ex (j8 (.int 39373))) (.sl 1) fMul2)) fAdd)) (.ex (j8 (.int 71))) fAdd) (j6 (j8 (.int 0)) j7))))) sNext))
abbrev r_law_box : FNew := DL.runN 3 io_law_box (b_law_box)
abbrev io_law_rows : List Nat := [0]
def b_law_rows : SS := (q6 (sPar [1, 2, 3] [.d (listOf (nLst j7)), .d (j8 .none), .d (listOf (nLst j7))]) (q6 (sFor (iData (.ex (mRev2 (.sl 0)))) (.tup (.cons (.nm 4) (.cons (.nm 5) (.cons (.nm 6) .nil)))) (q6 (sIf (tBin true (.ex (mBin true (.sl 5) (.ex (j8 (.int 0))) fIx)) (.ex (j8 (.str (Str.ofString "linktimeout")))) fEq) (q6 (sSet 2 (mVar 4)) sNext) (q6 (sIf (tAndM (tBin true (.ex (j8 (.str (Str.ofString "link")))) (.sl 6) fNotIn) (tAndM (tBin true (.ex (j8 (.str (Str.ofString "hard")))) (.sl 6) fNotIn) (tBin true (.sl 3) (.ex (listOf (nLst j7))) fNe))) (q6 (sPar [1, 3] [.d (mBin false (.ex (listOf (nLst (j6 (mCall true [(.sl 3)] fTuple) j7)))) (.sl 1) fAdd), .d (listOf (nLst j7))]) sNext) sNext) (q6 (sPar [3, 2] [.d (mBin false (.ex (listOf (nLst (j6 (mTup (j6 (mVar 4) (j6 (mVar 2) j7))) j7)))) (.sl 3) fAdd), .d (j8 .none)]) sNext))) sNext)) (q6 (sRet (mBin false (.ex (listOf (nLst (j6 (mCall true [(.sl 3)] fTuple) j7)))) (.sl 1) fAdd)) sNext)))
abbrev r_law_rows : FSem := runF 7 io_law_rows (b_law_rows)
end HL
namespace GH
open PySem PySem.Spec L2
open DL (UE UT UA US USs UG UI UO Rep RepL Bor Sim Ext Later Lv With NoStar)
def pairD : CV → Option (Key × CV)
  | .d (.tuple [k, v]) => match keyOf (.d k) with | some q => some (q, .d v) | none => none
  | _ => none
end GH
namespace GH
open PySem PySem.Spec L2
open DL (UE UT UA US USs UG UI UO UGb UEb UTb UTs Rep RepL Bor Sim Ext Later Lv With opB opB_ok caB caB_ok ixB ixB_ok slB slB_ok cutG NoStar Tg Tgs setsS RoomG v3 DefAt FSem FNew FnG FnN Sl stOf envOf)
section
variable {X : Cx} {ct : CT} {k : Nat} {f : Addr} {fd : FuncData} {ps : List Str} {x : Str} {p pos apos : Pos} {e o : Expr} {es : List Expr}
/-- what is read of a value: data, a list of data, a list of these -/
def vw2 (h : Hh) : CV → Option D
  | .ref n => match h[n]? with
    | some (.lst xs) => match vws h xs with | some ds => some (.list ds) | none => none
    | _ => none
  | x => vw h x
def vws2 (h : Hh) : List CV → Option (List D)
  | [] => some []
  | x :: xs => match vw2 h x, vws2 h xs with | some d, some ds => some (d :: ds) | _, _ => none
/-- no part of what was handed in -/
def atomD : D → Bool
  | .list _ => false
  | .tuple _ => false
  | _ => true
def gFv (F : FSem) (n : ML) : ME := fun fr h => match n fr h with
  | some (xs, h1) => match vws2 h1 xs with
    | some ds => match F (ds.map Sl.d) with | some (z, _) => if atomD z = true then some (.d z, h1) else none | none => none
    | none => none
  | none => none
section
variable {K : PySem.W.Frag} {P : Addr → Prop} {ρ : List Addr} {H : Hp} {h : Hh}
theorem rep_less {v : V} {d : D} (r : Rep K (Lx P ρ) H v d) : Rep K P H v d := r.mono fun a o e n => ⟨e, fun z => n (.inr z)⟩
theorem repL_less {v : List V} {d : List D} (r : RepL K (Lx P ρ) H v d) : RepL K P H v d := r.mono fun a o e n => ⟨e, fun z => n (.inr z)⟩
theorem vw_rep (R : Rl K ct P ρ H h) {x : CV} {v : V} {y : D} (r : VR K P ρ H x v) (ev : vw h x = some y) : Rep K P H v y := by
  cases r with
  | d r => cases ev; exact rep_less r
  | @ref n a hn =>
    unfold vw at ev
    simp only at ev
    split at ev
    · rename_i xs e1
      split at ev
      · rename_i ds e2
        cases ev
        obtain ⟨b, hb, vs, e3, r3⟩ := R.at e1
        rw [hn] at hb; cases hb
        rw [dats_eq e2] at r3
        exact .lst e3 (fun z => R.apart _ z (List.mem_of_getElem? hn)) (repL_less r3.rep)
      · cases ev
    · cases ev
  | tup _ _ _ => cases ev
  | scr _ => cases ev
theorem vws_rep (R : Rl K ct P ρ H h) : ∀ {xs : List CV} {vs : List V} {ds : List D}, VRL K P ρ H xs vs → vws h xs = some ds → RepL K P H vs ds
  | _, _, ds, .nil, ev => by cases ev; exact .nil
  | x :: xs, _, ds, .cons r t, ev => by
    unfold vws at ev
    split at ev
    · rename_i d ds' e1 e2
      cases ev
      exact .cons (vw_rep R r e1) (vws_rep R t e2)
    · cases ev
theorem vw2_rep (R : Rl K ct P ρ H h) {x : CV} {v : V} {y : D} (r : VR K P ρ H x v) (ev : vw2 h x = some y) : Rep K P H v y := by
  cases r with
  | @ref n a hn =>
    unfold vw2 at ev
    simp only at ev
    split at ev
    · rename_i xs e1
      split at ev
      · rename_i ds e2
        cases ev
        obtain ⟨b, hb, vs, e3, r3⟩ := R.at e1
        rw [hn] at hb; cases hb
        exact .lst e3 (fun z => R.apart _ z (List.mem_of_getElem? hn)) (vws_rep R r3 e2)
      · cases ev
    · cases ev
  | d r => exact vw_rep R (.d r) ev
  | tup a b c => cases ev
  | scr a => cases ev
theorem vws2_rep (R : Rl K ct P ρ H h) : ∀ {xs : List CV} {vs : List V} {ds : List D}, VRL K P ρ H xs vs → vws2 h xs = some ds → RepL K P H vs ds
  | _, _, ds, .nil, ev => by cases ev; exact .nil
  | x :: xs, _, ds, .cons r t, ev => by
    unfold vws2 at ev
    split at ev
    · rename_i d ds' e1 e2
      cases ev
      exact .cons (vw2_rep R r e1) (vws2_rep R t e2)
    · cases ev
theorem dsimV {ds : List D} {vs : List V} (R : Rl K ct P ρ H h) (q : RepL K P H vs ds) : Sim K P (stOf vs) H (envOf (ds.map Sl.d)) ∧ ∀ a, ¬ DL.OwnA (stOf vs) (envOf (ds.map Sl.d)) a := by
  have no : ∀ a, ¬ DL.OwnA (stOf vs) (envOf (ds.map Sl.d)) a := fun a ⟨i, xs, z, _⟩ => by obtain ⟨x, e, _⟩ := envd_get z; cases e
  have el : vs.length = ds.length := q.length
  refine ⟨⟨by simp [stOf, envOf, el], fun i x z => ?_, fun i x z => ?_, fun i x z => ?_, fun a z => R.prot a z, fun i j xs ys a z => ?_, fun a z => absurd z (no a)⟩, no⟩
  · obtain ⟨y, e, e2⟩ := envd_get z
    cases e
    obtain ⟨v, v1, v2⟩ := q.get e2
    exact ⟨v, DL.stOf_get.mpr v1, v2.mono fun a o e n => ⟨e, fun z => n (z.elim id fun z => absurd z (no a))⟩⟩
  · obtain ⟨y, e, _⟩ := envd_get z; cases e
  · obtain ⟨y, e, _⟩ := envd_get z; cases e
  · obtain ⟨y, e, _⟩ := envd_get z; cases e
theorem rep_atom {L L' : Addr → Prop} {v : V} {z : D} (r : Rep K L H v z) (a : atomD z = true) : Rep K L' H v z := by
  cases r with
  | non => exact .non
  | bl b => exact .bl b
  | int i => exact .int i
  | str x h => exact .str x h
  | lst => cases a
  | tup => cases a
  | ktup => cases a
end
theorem okE_fv {F : FSem} {n : ML} (A : DefAt X x f fd ps) (g : FnG X.prog X.w X.K X.mg X.base k f fd ps F) (hr : RoomG k X.A) (N : NoStar X e es pos) (hl : (e :: es).length = ps.length) (hn : OkA X ct (e :: es) n) (hln : AL (e :: es).length n) :
    OkE X ct (.Call (.Name x p) (e :: es) [] pos) (gFv F n) := by
  intro P ρ sg H fr h Q y h' R F0 hm hq
  unfold gFv at hm
  split at hm
  · rename_i xs h1 e1
    split at hm
    · rename_i ds e2
      split at hm
      · rename_i z as' e3
        split at hm
        · rename_i az
          cases hm
          refine DL.ue_call A N (hn P ρ sg H fr h _ xs h' R F0 e1 fun vs ρ1 H1 E1 q1 => fun pins s us I rv => ?_)
          have hvl : vs.length = ps.length := by rw [q1.length, hln _ _ _ _ e1, hl]
          have hul : us.length = ps.length := by rw [← rv.length]; exact hvl
          obtain ⟨S, no⟩ := dsimV E1.rl (vws2_rep E1.rl q1 e2)
          refine ⟨hul, g.run X.A X.stack s H1 ⟨us, []⟩ us vs P _ as' z Q hr I.env0 ?_ rv hvl S e3 fun v H2 E2 q2 => ?_⟩
          · have := A.b s us I.kIn (by rw [List.append_nil]; exact hul)
            rwa [List.append_nil] at this
          · exact hq v ρ1 H2 (E1.trans (E1.rl.grow fun a o e => E2.keep a o e (no a))) (.d (rep_atom q2 az))
        · cases hm
      · cases hm
    · cases hm
  · cases hm
theorem okE_fnk {G : GSem} {m : ME} {q : Str} {kpos : Pos} (A : DefAt X x f fd [q]) (hbk : ∀ (s : Shared) (u : Value), X.K.In s.heap → BindsTo s fd ⟨[], [(q, u)]⟩ [(q, u)]) (g : FnH X.prog X.w X.K X.mg X.base ct k f fd [q] G) (hr : RoomG k X.A) (he : OkE X ct e m) :
    OkE X ct (.Call (.Name x p) [] [⟨some q, e, kpos⟩] pos) (gFn G (j6 m j7)) := by
  intro P ρ sg H fr h Q y h' R F0 hm hq
  unfold gFn at hm
  split at hm
  · rename_i xs h1 e1
    unfold j6 j7 at e1
    split at e1
    · rename_i x0 h0 e2
      have ex : xs = [x0] ∧ h0 = h1 := by
        have e3 : some ([x0], h0) = some (xs, h1) := e1
        cases e3; exact ⟨rfl, rfl⟩
      obtain ⟨rfl, rfl⟩ := ex
      intro pins s I
      refine wpAny_Call_Name_kw (ld_glob I A.g A.m ?_ A.db)
      refine PySem.W.callWith_KW0 (h₀ := X.base) (kws := [⟨some q, e, kpos⟩]) I.ok.mod.kin A.kp rfl ?_ rfl
      have hk : PK X [⟨some q, e, kpos⟩] (tCons (UE X e) tNil) := pk_cons UE.pe pk_nil
      refine thn (hk.run pos pins s sg H (fun vs H2 => ∀ pins s us, Inv X pins sg H2 s → Vals vs us → codeAny (model X.prog X.w) X.A (.call (.ref f) ⟨[], [q].zip us⟩) (CR CX0 X.stack X.prog X.w H2 s Q E0) s) I ?_) fun us s1 q0 => ?_
      · refine he P ρ sg H fr h _ x0 h0 R F0 e2 fun v ρ1 H1 E1 q1 => fun pins s us I rv => ?_
        obtain ⟨u, rfl, ru⟩ := vals1 rv
        exact g.run X.A X.stack s H1 ⟨[], [(q, u)]⟩ [u] [v] P ρ1 h0 [x0] y h' Q hr I.env0 (hbk s u I.kIn) rv rfl E1.rl (.cons q1 .nil) hm fun v ρ2 H2 E2 q2 => hq v ρ2 H2 (E1.trans E2) q2
      · obtain ⟨vs, H1, I1, rv, q1⟩ := q0
        exact ⟨I1.kIn, DL.run_call I1 (q1 pins s1 us I1 rv)⟩
    · cases e1
  · cases hm
def sLput (mo mk mv : ME) : MS := fun fr h => match mv fr h with
  | some (v, h1) => match mo fr h1 with
    | some (.ref n, h2) => match mk fr h2 with
      | some (.d (.int i), h3) => match h3[n]? with
        | some (.lst xs) => match ixN xs.length i with | some j => some (.nx, fr, h3.set n (.lst (xs.set j v))) | none => none
        | _ => none
      | _ => none
    | _ => none
  | none => none
theorem okS_lput {ek value : Expr} {pt : Pos} {mo mk mv : ME} (ho : OkE X ct o mo) (hk : OkE X ct ek mk) (hv : OkE X ct value mv)
    (ha : ∀ v, assign (.Subscript o ek pt) X.env v = (do
      let ov ← holding [v] (eval o X.env)
      let iv ← holding [v, ov] (eval ek X.env)
      standAt pt
      holding [v, ov, iv] (setItem ov iv v)
      release [v, ov, iv] []))
    (hs : swapsWithSole [.Subscript o ek pt] value pos.line X.env = pure false) (hw : swappedStores [.Subscript o ek pt] value X.env = pure none) (hae : (assignEach [.Subscript o ek pt] X.env).map (·.2) = [assign (.Subscript o ek pt) X.env]) :
    OkS X ct (.Assign [.Subscript o ek pt] value pos) (sLput mo mk mv) := by
  intro P ρ sg H fr h E fl fr' h' R F hm hp
  unfold sLput at hm
  split at hm
  · rename_i v h1 e1
    split at hm
    · rename_i n h2 e2
      split at hm
      · rename_i i h3 e3
        split at hm
        · rename_i xs e4
          split at hm
          · rename_i j e5
            cases hm
            refine US.of (ps_asg UE.pe (pg_sub UE.pe UE.pe set_list ha) hs hw hae) (hv P ρ sg H _ h _ _ _ R F e1 fun w ρ1 H1 E1 q1 => ho P ρ1 sg H1 _ _ _ _ _ E1.rl (F.up E1.up) e2 fun u ρ2 H2 E2 q2 => hk P ρ2 sg H2 _ h2 _ _ _ E2.rl ((F.up E1.up).up E2.up) e3 fun t ρ3 H3 E3 q3 => ?_)
            cases q2 with
            | @ref _ qa hn =>
              have hn3 := E3.up.pre _ _ hn
              obtain ⟨q, hq, vs, o1, o2⟩ := E3.rl.at e4
              rw [hn3] at hq; cases hq
              have r1 := (q1.up E2.up).up E3.up
              cases q3 with
              | d q3 =>
                cases q3
                refine ⟨qa, vs, i, j, rfl, rfl, o1, by rw [o2.length]; exact e5, ?_⟩
                have E4 : Ex X.K ct P ρ3 H3 ρ3 (upd H3 _ (.lst (vs.set j w))) (h3.set n (.lst (xs.set j v))) := E3.rl.write hn3 (List.getElem?_eq_some_iff.mp e4).1 fun m => ⟨_, upd_same, (VRL.set r1 j o2).up m⟩
                exact hp sg ρ3 _ (((E1.trans E2).trans E3).trans E4) ((((F.up E1.up).up E2.up).up E3.up).up E4.up)
          · cases hm
        · cases hm
      · cases hm
    · cases hm
  · cases hm
def gLenS (m : ME) : ME := fun fr h => match m fr h with | some (.scr ns, h') => some (.d (.int ns.length), h') | _ => none
theorem okE_lenS {m : ME} (hg : Gl X "len") (hm' : X.mg "len" = none) (ha : OkA X ct [e] (j6 m j7)) (N : NoStar X e [] pos) : OkE X ct (.Call (.Name "len" p) [e] [] pos) (gLenS m) := by
  intro P ρ sg H fr h Q y h' R F hm hq
  unfold gLenS at hm
  split at hm
  · rename_i ns h1 e1
    cases hm
    have e2 : j6 m j7 fr h = some ([.scr ns], h') := by unfold j6 j7; rw [e1]
    refine UE.of (pe_callB (caB_ok (f := .builtin "len")) hg hm' (by decide +kernel) UA.pa (by decide) (by decide) N.he N.hpl) (ha P ρ sg H fr h _ _ _ R F e2 fun vs ρ1 H1 E1 q1 => ?_)
    cases q1 with
    | cons q q' =>
      cases q'
      cases q with
      | scr q =>
        exact DL.callS_len (Lx P ρ1) sg H1 (bare sg) _ [.list (ns.map PyData.int)] _ Q E1.rl.sim (.cons (.scr rfl (q.map fun o e n => ⟨e, id⟩)) .nil) rfl fun w H' E' q => hq w ρ1 H' (E1.trans (ext_out E1.rl E')) (rep_out (by rw [List.length_map] at q; exact q))
  · cases hm
end
end GH
namespace HL
open PySem PySem.Spec L2 DL
def b_chains (tupled : FSem) (has_link : FSem) : GH.MS := (GH.q6 (GH.sPar [1, 2] (GH.j6 (GH.gNew (GH.nLst GH.j7)) (GH.j6 (GH.gL (j8 (.bool false))) GH.j7))) (GH.q6 (GH.sFor (GH.iV (GH.gFo tupled (GH.j6 (GH.j9 0) GH.j7))) (.tup (.cons (.nm 3) (.cons (.nm 4) (.cons (.nm 5) .nil)))) (GH.q6 (GH.sIf (GH.tBin (GH.gIx (GH.j9 4) (GH.gL (j8 (.int 0)))) (GH.gL (j8 (.str (Str.ofString "linktimeout")))) fEq) (GH.q6 (GH.sLput (GH.gIx (GH.j9 1) (GH.gL (mNeg (j8 (.int 1))))) (GH.gL (mNeg (j8 (.int 1)))) (GH.gTup (GH.j6 (GH.gIx (GH.gIx (GH.gIx (GH.j9 1) (GH.gL (mNeg (j8 (.int 1))))) (GH.gL (mNeg (j8 (.int 1))))) (GH.gL (j8 (.int 0)))) (GH.j6 (GH.j9 3) GH.j7)))) GH.sNx) (GH.q6 (GH.sIf (GH.gTru (GH.j9 2)) (GH.q6 (GH.sEx (GH.gApp (GH.gIx (GH.j9 1) (GH.gL (mNeg (j8 (.int 1))))) (GH.gTup (GH.j6 (GH.j9 3) (GH.j6 (GH.gL (j8 .none)) GH.j7))))) GH.sNx) (GH.q6 (GH.sEx (GH.gApp (GH.j9 1) (GH.gNew (GH.nLst (GH.j6 (GH.gTup (GH.j6 (GH.j9 3) (GH.j6 (GH.gL (j8 .none)) GH.j7))) GH.j7))))) GH.sNx)) (GH.q6 (GH.sSet 2 (GH.gFo has_link (GH.j6 (GH.gTup (GH.j6 (GH.j9 3) (GH.j6 (GH.j9 4) (GH.j6 (GH.j9 5) GH.j7)))) GH.j7))) GH.sNx))) GH.sNx)) (GH.q6 (GH.sRt (GH.gNew (GH.nLc (GH.iV (GH.j9 1)) (.nm 6) GH.tYes (GH.gCall (GH.j6 (GH.j9 6) GH.j7) fTuple)))) GH.sNx)))
abbrev r_chains (tupled : FSem) (has_link : FSem) : GH.GSem := GH.runH 7 (b_chains tupled has_link)
def b_law_right (tags : FSem) (law_name : FSem) (law_names : FNew) (law_named_setup : FSem) (law_lot : FSem) (law_mixed : FSem) (law_lists : FSem) (law_same : FSem) (law_named_script : FSem) (law_rows : FSem) (chains : GH.GSem) : GH.MS := (GH.q6 (GH.sSet 1 (GH.gFo law_named_setup (GH.j6 (GH.j9 0) (GH.j6 (GH.gL (j8 (.int 1))) GH.j7)))) (GH.q6 (GH.sFor (GH.iRg1 (GH.gL (j8 (.int 4)))) (.nm 2) (GH.q6 (GH.sSet 3 (GH.gFo law_lot (GH.j6 (GH.j9 0) (GH.j6 (GH.j9 1) (GH.j6 (GH.gNew (GH.nFo law_names (GH.j6 (GH.j9 0) (GH.j6 (GH.gL (j8 (.int 12))) GH.j7)))) (GH.j6 (GH.gNew (GH.nLst (GH.j6 (GH.gFo law_name (GH.j6 (GH.j9 0) GH.j7)) GH.j7))) (GH.j6 (GH.gL (j8 (.int 6))) GH.j7))))))) (GH.q6 (GH.sPar [4, 5, 6] (GH.j6 (GH.gFo law_rows (GH.j6 (GH.j9 3) GH.j7)) (GH.j6 (GH.gFo law_mixed (GH.j6 (GH.j9 0) (GH.j6 (GH.j9 3) GH.j7))) (GH.j6 (GH.gCall (GH.j6 (GH.j9 3) GH.j7) fRepr) GH.j7)))) (GH.q6 (GH.sSet 7 (GH.gNew (GH.nLst (GH.j6 (GH.gFn chains (GH.j6 (GH.j9 3) GH.j7)) (GH.j6 (GH.gFn chains (GH.j6 (GH.gFo law_lists (GH.j6 (GH.j9 3) GH.j7)) GH.j7)) (GH.j6 (GH.gFn chains (GH.j6 (GH.j9 5) GH.j7)) GH.j7)))))) (GH.q6 (GH.sIf (GH.tOr (GH.gNot (GH.gTru (GH.gFv law_same (GH.j6 (GH.j9 7) (GH.j6 (GH.gBin (GH.gDat (GH.nLst (GH.j6 (GH.j9 4) GH.j7))) (GH.gL (j8 (.int 3))) fMul2) GH.j7))))) (GH.tBin (GH.gCall (GH.j6 (GH.j9 3) GH.j7) fRepr) (GH.j9 6) fNe)) (GH.q6 (GH.sRt (GH.gL (j8 (.bool false)))) GH.sNx) GH.sNx) (GH.q6 (GH.sEx (GH.gApp (GH.gIx (GH.j9 7) (GH.gL (j8 (.int 0)))) (GH.gL (j8 (.str (Str.ofString "more")))))) (GH.q6 (GH.sIf (GH.gNot (GH.gTru (GH.gFv law_same (GH.j6 (GH.gFn chains (GH.j6 (GH.j9 3) GH.j7)) (GH.j6 (GH.j9 4) GH.j7))))) (GH.q6 (GH.sRt (GH.gL (j8 (.bool false)))) GH.sNx) GH.sNx) (GH.q6 (GH.sSet 8 (GH.gFo law_named_script (GH.j6 (GH.j9 0) (GH.j6 (GH.j9 1) (GH.j6 (GH.gL (j8 (.int 9))) GH.j7))))) (GH.q6 (GH.sSet 4 (GH.gNew (GH.nLst GH.j7))) (GH.q6 (GH.sFor (GH.iV (GH.j9 8)) (.nm 9) (GH.q6 (GH.sSet 4 (GH.gBin (GH.j9 4) (GH.gIf (GH.tBin (GH.gIx (GH.j9 9) (GH.gL (j8 (.int 0)))) (GH.gL (j8 (.str (Str.ofString "put")))) fEq) (GH.gDat (GH.nLc (GH.iV (GH.gIx (GH.j9 9) (GH.gL (j8 (.int 1))))) (.nm 10) GH.tYes (GH.gIx (GH.j9 10) (GH.gL (j8 (.int 0)))))) (GH.gDat (GH.nLst GH.j7))) fAdd)) GH.sNx)) (GH.q6 (GH.sIf (GH.gNot (GH.gTru (GH.gFv law_same (GH.j6 (GH.gDat (GH.nLst (GH.j6 (GH.gFo tags (GH.j6 (GH.j9 8) GH.j7)) (GH.j6 (GH.gFo tags (GH.j6 (GH.gFo law_mixed (GH.j6 (GH.j9 0) (GH.j6 (GH.j9 8) GH.j7))) GH.j7)) GH.j7)))) (GH.j6 (GH.gBin (GH.gDat (GH.nLst (GH.j6 (GH.gCall (GH.j6 (GH.j9 4) GH.j7) fTuple) GH.j7))) (GH.gL (j8 (.int 2))) fMul2) GH.j7))))) (GH.q6 (GH.sRt (GH.gL (j8 (.bool false)))) GH.sNx) GH.sNx) GH.sNx))))))))))) (GH.q6 (GH.sRt (GH.gFv law_same (GH.j6 (GH.gDat (GH.nLst (GH.j6 (GH.gFo tags (GH.j6 (GH.gTup GH.j7) GH.j7)) (GH.j6 (GH.gFo tags (GH.j6 (GH.gTup (GH.j6 (GH.gTup (GH.j6 (GH.gL (j8 (.str (Str.ofString "quiet")))) GH.j7)) (GH.j6 (GH.gTup (GH.j6 (GH.gL (j8 (.str (Str.ofString "stop")))) GH.j7)) GH.j7))) GH.j7)) GH.j7)))) (GH.j6 (GH.gDat (GH.nLst (GH.j6 (GH.gTup GH.j7) (GH.j6 (GH.gTup GH.j7) GH.j7)))) GH.j7)))) GH.sNx)))
abbrev r_law_right (tags : FSem) (law_name : FSem) (law_names : FNew) (law_named_setup : FSem) (law_lot : FSem) (law_mixed : FSem) (law_lists : FSem) (law_same : FSem) (law_named_script : FSem) (law_rows : FSem) (chains : GH.GSem) : GH.GSem := GH.runH 11 (b_law_right tags law_name law_names law_named_setup law_lot law_mixed law_lists law_same law_named_script law_rows chains)
def b_law (law_box : FNew) (law_right : GH.GSem) : GH.MS := (GH.q6 (GH.sFor (GH.iRg1 (GH.gBin (GH.gL (j8 (.int 1))) (GH.gCall (GH.j6 (GH.gL (j8 (.int 3))) (GH.j6 (GH.gLenS (GH.j9 0)) GH.j7)) fMin) fAdd)) (.nm 1) (GH.q6 (GH.sSet 2 (GH.gNew (GH.nFo law_box (GH.j6 (GH.j9 0) (GH.j6 (GH.j9 1) GH.j7))))) (GH.q6 (GH.sIf (GH.gNot (GH.gTru (GH.gCall (GH.j6 (GH.gDat (GH.nLc (GH.iRg1 (GH.gL (j8 (.int 2)))) (.nm 3) GH.tYes (GH.gFn law_right (GH.j6 (GH.j9 2) GH.j7)))) GH.j7) fAll))) (GH.q6 (GH.sRt (GH.gL (j8 (.bool false)))) GH.sNx) GH.sNx) GH.sNx))) (GH.q6 (GH.sRt (GH.gL (j8 (.bool true)))) GH.sNx))
abbrev r_law (law_box : FNew) (law_right : GH.GSem) : GH.GSem := GH.runH 4 (b_law law_box law_right)
end HL
namespace K03
open PySem PySem.Spec L2 DL HL
def top (i : Nat) : Stmt := PySem.Challenge.pw_endonce_k03_chains_and_tags.main.body.getD i (.Pass ⟨0, 0, 0, 0⟩)
structure Sems where
  tupled : FSem
  has_link : FSem
  tags : FSem
  law_take : FSem
  law_of : FSem
  law_name : FSem
  law_names : FNew
  law_named_setup : FSem
  law_place : FSem
  law_letters : FSem
  law_deed : FSem
  law_ended : FSem
  law_lot : FSem
  law_mixed : FSem
  law_lists : FSem
  law_same : FSem
  law_event : FSem
  law_named_script : FSem
  law_box : FNew
  law_rows : FSem
  chains : GH.GSem
  law_right : GH.GSem
  law : GH.GSem
def sems : Nat → Sems
  | 0 => ⟨fun _ => none, fun _ => none, fun _ => none, fun _ => none, fun _ => none, fun _ => none, fun _ => none, fun _ => none, fun _ => none, fun _ => none, fun _ => none, fun _ => none, fun _ => none, fun _ => none, fun _ => none, fun _ => none, fun _ => none, fun _ => none, fun _ => none, fun _ => none, fun _ _ => none, fun _ _ => none, fun _ _ => none⟩
  | k + 1 => ⟨runF 2 io_tupled (b_tupled (sems k).tupled), runF 2 io_has_link (b_has_link), runF 4 io_tags (b_tags), runF 6 io_law_take (b_law_take), runF 2 io_law_of (b_law_of (sems k).law_take), runF 3 io_law_name (b_law_name (sems k).law_take (sems k).law_of), runN 8 io_law_names (b_law_names (sems k).law_name), runF 5 io_law_named_setup (b_law_named_setup (sems k).law_take (sems k).law_of (sems k).law_names), runF 4 io_law_place (b_law_place (sems k).law_take (sems k).law_of), runF 3 io_law_letters (b_law_letters (sems k).law_take (sems k).law_of), runF 5 io_law_deed (b_law_deed (sems k).law_take (sems k).law_of (sems k).law_place (sems k).law_letters), runF 5 io_law_ended (b_law_ended), runF 13 io_law_lot (b_law_lot (sems k).law_take (sems k).law_deed (sems k).law_ended), runF 4 io_law_mixed (b_law_mixed (sems k).law_take (sems k).law_mixed), runF 2 io_law_lists (b_law_lists (sems k).law_lists), runF 5 io_law_same (b_law_same (sems k).law_same), runF 6 io_law_event (b_law_event (sems k).law_take (sems k).law_of (sems k).law_letters (sems k).law_lot), runF 8 io_law_named_script (b_law_named_script (sems k).law_take (sems k).law_names (sems k).law_lot (sems k).law_event), runN 3 io_law_box (b_law_box), runF 7 io_law_rows (b_law_rows), GH.runH 7 (b_chains (sems k).tupled (sems k).has_link), GH.runH 11 (b_law_right (sems k).tags (sems k).law_name (sems k).law_names (sems k).law_named_setup (sems k).law_lot (sems k).law_mixed (sems k).law_lists (sems k).law_same (sems k).law_named_script (sems k).law_rows (sems k).chains), GH.runH 4 (b_law (sems k).law_box (sems k).law_right)⟩
structure Ads where
@[reducible] def ctOf (Z : Ads) : GH.CT
  | _ => ⟨0, []⟩
structure Tab (K : PySem.W.Frag) (w : World) (mg : Str → Option Value) (Z : Ads) where
  q_tupled : GH.TDf K mg "tupled" "tupled" (top 1) ["value"]
  q_has_link : GH.TDf K mg "has_link" "has_link" (top 4) ["request"]
  q_tags : GH.TDf K mg "tags" "tags" (top 7) ["script"]
  q_law_take : GH.TDf K mg "_law_take" "_law_take" (top 9) ["_law_box_here", "_law_below"]
  q_law_of : GH.TDf K mg "_law_of" "_law_of" (top 10) ["_law_box_here", "_law_some"]
  q_law_name : GH.TDf K mg "_law_name" "_law_name" (top 11) ["_law_box_here"]
  q_law_names : GH.TDf K mg "_law_names" "_law_names" (top 12) ["_law_box_here", "_law_many_so"]
  q_law_named_setup : GH.TDf K mg "_law_named_setup" "_law_named_setup" (top 13) ["_law_box_here", "_law_least_so"]
  q_law_place : GH.TDf K mg "_law_place" "_law_place" (top 14) ["_law_box_here", "_law_setup_so"]
  q_law_letters : GH.TDf K mg "_law_letters" "_law_letters" (top 15) ["_law_box_here", "_law_most_so"]
  q_law_deed : GH.TDf K mg "_law_deed" "_law_deed" (top 16) ["_law_box_here", "_law_setup_so", "_law_gone"]
  q_law_ended : GH.TDf K mg "_law_ended" "_law_ended" (top 17) ["_law_batch"]
  q_law_lot : GH.TDf K mg "_law_lot" "_law_lot" (top 18) ["_law_box_here", "_law_setup_so", "_law_tags_so", "_law_gone", "_law_many_so"]
  q_law_mixed : GH.TDf K mg "_law_mixed" "_law_mixed" (top 19) ["_law_box_here", "_law_matter"]
  q_law_lists : GH.TDf K mg "_law_lists" "_law_lists" (top 20) ["_law_matter"]
  q_law_same : GH.TDf K mg "_law_same" "_law_same" (top 21) ["_law_found", "_law_due"]
  q_law_event : GH.TDf K mg "_law_event" "_law_event" (top 22) ["_law_box_here", "_law_setup_so", "_law_tags_so", "_law_gone", "_law_clock_so"]
  q_law_named_script : GH.TDf K mg "_law_named_script" "_law_named_script" (top 23) ["_law_box_here", "_law_setup_so", "_law_many_so"]
  q_law_box : GH.TDf K mg "_law_box" "_law_box" (top 24) ["_law_script", "_law_k"]
  q_law_rows : GH.TDf K mg "_law_rows" "_law_rows" (top 25) ["_law_batch"]
  q_chains : GH.TDf K mg "chains" "chains" (top 6) ["lot"]
  k_chains : ∀ (s : Shared) (u : Value), K.In s.heap → BindsTo s q_chains.d ⟨[], [("lot", u)]⟩ [("lot", u)]
  q_law_right : GH.TDf K mg "_law_right" "_law_right" (top 26) ["_law_box_here"]
  q_law : GH.TDf K mg "law" "law" (top 27) ["_law_script"]
  z_abs : mg "abs" = none
  z_all : mg "all" = none
  z_any : mg "any" = none
  z_bool : mg "bool" = none
  z_int : mg "int" = none
  z_isinstance : mg "isinstance" = none
  z_len : mg "len" = none
  z_list : mg "list" = none
  z_min : mg "min" = none
  z_range : mg "range" = none
  z_repr : mg "repr" = none
  z_sorted : mg "sorted" = none
  z_str : mg "str" = none
  z_tuple : mg "tuple" = none
  z_zip : mg "zip" = none
  g_LINKS : TxtTup K mg "LINKS" [Str.ofString "hard", Str.ofString "link"]
abbrev csOf {K : PySem.W.Frag} {w : World} {mg : Str → Option Value} {Z : Ads} (T : Tab K w mg Z) : List (Addr × Nat) := []
structure Good (P : Program) (w : World) (K : PySem.W.Frag) (mg : Str → Option Value) (base : Heap) (Z : Ads) (T : Tab K w mg Z) (k : Nat) (S : Sems) : Prop where
  tupled : FnG P w K mg base k T.q_tupled.f T.q_tupled.d ["value"] S.tupled
  has_link : FnG P w K mg base k T.q_has_link.f T.q_has_link.d ["request"] S.has_link
  tags : FnG P w K mg base k T.q_tags.f T.q_tags.d ["script"] S.tags
  law_take : FnG P w K mg base k T.q_law_take.f T.q_law_take.d ["_law_box_here", "_law_below"] S.law_take
  law_of : FnG P w K mg base k T.q_law_of.f T.q_law_of.d ["_law_box_here", "_law_some"] S.law_of
  law_name : FnG P w K mg base k T.q_law_name.f T.q_law_name.d ["_law_box_here"] S.law_name
  law_names : FnN P w K mg base k T.q_law_names.f T.q_law_names.d ["_law_box_here", "_law_many_so"] S.law_names
  law_named_setup : FnG P w K mg base k T.q_law_named_setup.f T.q_law_named_setup.d ["_law_box_here", "_law_least_so"] S.law_named_setup
  law_place : FnG P w K mg base k T.q_law_place.f T.q_law_place.d ["_law_box_here", "_law_setup_so"] S.law_place
  law_letters : FnG P w K mg base k T.q_law_letters.f T.q_law_letters.d ["_law_box_here", "_law_most_so"] S.law_letters
  law_deed : FnG P w K mg base k T.q_law_deed.f T.q_law_deed.d ["_law_box_here", "_law_setup_so", "_law_gone"] S.law_deed
  law_ended : FnG P w K mg base k T.q_law_ended.f T.q_law_ended.d ["_law_batch"] S.law_ended
  law_lot : FnG P w K mg base k T.q_law_lot.f T.q_law_lot.d ["_law_box_here", "_law_setup_so", "_law_tags_so", "_law_gone", "_law_many_so"] S.law_lot
  law_mixed : FnG P w K mg base k T.q_law_mixed.f T.q_law_mixed.d ["_law_box_here", "_law_matter"] S.law_mixed
  law_lists : FnG P w K mg base k T.q_law_lists.f T.q_law_lists.d ["_law_matter"] S.law_lists
  law_same : FnG P w K mg base k T.q_law_same.f T.q_law_same.d ["_law_found", "_law_due"] S.law_same
  law_event : FnG P w K mg base k T.q_law_event.f T.q_law_event.d ["_law_box_here", "_law_setup_so", "_law_tags_so", "_law_gone", "_law_clock_so"] S.law_event
  law_named_script : FnG P w K mg base k T.q_law_named_script.f T.q_law_named_script.d ["_law_box_here", "_law_setup_so", "_law_many_so"] S.law_named_script
  law_box : FnN P w K mg base k T.q_law_box.f T.q_law_box.d ["_law_script", "_law_k"] S.law_box
  law_rows : FnG P w K mg base k T.q_law_rows.f T.q_law_rows.d ["_law_batch"] S.law_rows
  chains : GH.FnH P w K mg base (ctOf Z) k T.q_chains.f T.q_chains.d ["lot"] S.chains
  law_right : GH.FnH P w K mg base (ctOf Z) k T.q_law_right.f T.q_law_right.d ["_law_box_here"] S.law_right
  law : GH.FnH P w K mg base (ctOf Z) k T.q_law.f T.q_law.d ["_law_script"] S.law
end K03
namespace K03
open PySem PySem.Spec L2 DL HL
section
variable {P : Program} {w : World} {K : PySem.W.Frag} {mg : Str → Option Value} {base : Heap} {Z : Ads} {T : Tab K w mg Z} {k : Nat} {S : Sems}
theorem sc_tupled : FnScope ["value", "part"] ["value"] (defScope (top 1)) := ⟨rfl, rfl, rfl, by decide +kernel, rfl, by decide +kernel, by decide +kernel⟩
theorem ok_tupled (g : Good P w K mg base Z T k S) : FnG P w K mg base (k + 1) T.q_tupled.f T.q_tupled.d ["value"] (runF 2 io_tupled (b_tupled S.tupled)) := fnG_of (N := ["value", "part"]) T.q_tupled.F sc_tupled fun cdv A outer s H hr => by
  have C : Sc (v3 P w K mg base ["value", "part"] "tupled" (top 1) T.q_tupled.f cdv A outer s H) ["value", "part"] (defScope (top 1)) := ⟨rfl, rfl⟩
  exact (@x4 _ _ _ _ _ _ (@y8 _ _ _ _ _ (@okR_if _ _ _ _ _ _ _ _ _ (@v5 _ _ _ (@v9 _ _ _ (@okE_isi2 _ _ _ _ _ _ _ _ _ _ _ _ _ (@Sc.gl _ _ _ _ C (by decide +kernel)) T.z_isinstance (@Sc.o _ _ _ _ _ C 0 (by decide +kernel)) (C.ty (t := "list") (by decide +kernel) T.z_list (by decide +kernel) (by decide +kernel) (by decide +kernel)) (C.ty (t := "tuple") (by decide +kernel) T.z_tuple (by decide +kernel) (by decide +kernel) (by decide +kernel)) (@sN _ _ _ _ rfl))) (fun _ => rfl)) (@okR_e _ _ _ _ (@okE_callTy _ _ _ _ _ _ _ _ _ _ callS_tuple (@Sc.gl _ _ _ _ C (by decide +kernel)) T.z_tuple (by decide +kernel) (@okAO_cons _ _ _ _ _ (@v9 _ _ _ (@OkN.dat _ _ _ (C.lc [ ("part",1) ] rfl (by decide +kernel) (by decide +kernel) rfl (fun _ => rfl) (@okI_data _ _ _ _ (@Sc.o _ _ _ _ _ C 0 (by decide +kernel))) (fun s0 H0 C0 cl fp => (@Sc.g _ _ _ _ _ C.blk 1 (by decide +kernel))) (fun s0 H0 C0 cl fp => okTs_nil) (fun s0 H0 C0 cl fp => (@q7 _ _ _ _ _ _ _ _ _ _ _ _ (@Sc.df _ _ _ _ C.blk _ _ _ (by decide +kernel) T.q_tupled.m T.q_tupled.F.kp T.q_tupled.b (by decide +kernel)) g.tupled hr (@sN _ _ _ _ rfl) rfl (@okAO_cons _ _ _ _ _ (@Sc.o _ _ _ _ _ C.blk 1 (by decide +kernel)) okAO_nil (@sE _ _ _ rfl)) rfl))))) okAO_nil (@sE _ _ _ rfl)) (by decide +kernel) (by decide +kernel) (@sN _ _ _ _ rfl))) (@Sc.r _ _ _ _ _ _ C 0 (by decide +kernel)))) x9)
theorem sc_has_link : FnScope ["request", "flag"] ["request"] (defScope (top 4)) := ⟨rfl, rfl, rfl, by decide +kernel, rfl, by decide +kernel, by decide +kernel⟩
theorem ok_has_link (g : Good P w K mg base Z T k S) : FnG P w K mg base (k + 1) T.q_has_link.f T.q_has_link.d ["request"] (runF 2 io_has_link (b_has_link)) := fnG_of (N := ["request", "flag"]) T.q_has_link.F sc_has_link fun cdv A outer s H hr => by
  have C : Sc (v3 P w K mg base ["request", "flag"] "has_link" (top 4) T.q_has_link.f cdv A outer s H) ["request", "flag"] (defScope (top 4)) := ⟨rfl, rfl⟩
  exact (@x4 _ _ _ _ _ _ (@y8 _ _ _ _ _ (@okR_e _ _ _ _ (@okE_callB _ _ _ _ _ _ _ _ _ _ (@callS_any _ rfl) (@Sc.gl _ _ _ _ C (by decide +kernel)) T.z_any (by decide +kernel) (@okAO_cons _ _ _ _ _ (@v9 _ _ _ (@OkN.dat _ _ _ (C.lc [ ("flag",1) ] rfl (by decide +kernel) (by decide +kernel) rfl (fun _ => rfl) (@okI_data _ _ _ _ (@v9 _ _ _ (@j3 _ _ _ _ _ _ (@Sc.o _ _ _ _ _ C 0 (by decide +kernel)) (@v9 _ _ _ y5) (fun _ _ => rfl)))) (fun s0 H0 C0 cl fp => (@Sc.g _ _ _ _ _ C.blk 1 (by decide +kernel))) (fun s0 H0 C0 cl fp => okTs_nil) (fun s0 H0 C0 cl fp => (@okE_cmp _ _ _ _ _ _ _ _ _ (@opS_in _ (Room.un65 hr)) (@Sc.o _ _ _ _ _ C.blk 1 (by decide +kernel)) (@v9 _ _ _ (@okE_gtup _ _ _ _ (@Sc.gl _ _ _ _ C.blk (by decide +kernel)) T.g_LINKS (by decide +kernel) (by decide +kernel))) (by rfl)))))) okAO_nil (@sE _ _ _ rfl)) (by decide +kernel) (by decide +kernel) (@sN _ _ _ _ rfl)))) x9)
theorem sc_tags : FnScope ["script", "found", "event", "request"] ["script"] (defScope (top 7)) := ⟨rfl, rfl, rfl, by decide +kernel, rfl, by decide +kernel, by decide +kernel⟩
theorem ok_tags (g : Good P w K mg base Z T k S) : FnG P w K mg base (k + 1) T.q_tags.f T.q_tags.d ["script"] (runF 4 io_tags (b_tags)) := fnG_of (N := ["script", "found", "event", "request"]) T.q_tags.F sc_tags fun cdv A outer s H hr => by
  have C : Sc (v3 P w K mg base ["script", "found", "event", "request"] "tags" (top 7) T.q_tags.f cdv A outer s H) ["script", "found", "event", "request"] (defScope (top 7)) := ⟨rfl, rfl⟩
  exact (@x4 _ _ _ _ _ _ (@Sc.own _ _ _ _ _ _ _ _ _ C 1 (by decide +kernel) (by decide +kernel) (@v8 _ _ _ _ x5) rfl) (@x4 _ _ _ _ _ _ (@okS_for _ _ _ _ _ _ _ _ _ PassesOwn.never rfl (@okI_data _ _ _ _ (@Sc.o _ _ _ _ _ C 0 (by decide +kernel))) (@Sc.g _ _ _ _ _ C 2 (by decide +kernel)) (by decide +kernel) (@x4 _ _ _ _ _ _ (@w5 _ _ _ _ _ (C.ext 1 (by decide +kernel) (@okE_if _ _ _ _ _ _ _ _ (@j5 _ _ _ _ _ _ _ _ _ (@opS_eq _ (Room.un64 hr)) (@v9 _ _ _ (@j3 _ _ _ _ _ _ (@Sc.o _ _ _ _ _ C 2 (by decide +kernel)) (@v9 _ _ _ y5) (fun _ _ => rfl))) (@v9 _ _ _ (@x6 _ _ _ _ (by decide +kernel))) (nomark _)) (@OkN.dat _ _ _ (C.lc [ ("request",3) ] rfl (by decide +kernel) (by decide +kernel) rfl (fun _ => rfl) (@okI_data _ _ _ _ (@v9 _ _ _ (@j3 _ _ _ _ _ _ (@Sc.o _ _ _ _ _ C 2 (by decide +kernel)) (@v9 _ _ _ y5) (fun _ _ => rfl)))) (fun s0 H0 C0 cl fp => (@Sc.g _ _ _ _ _ C.blk 3 (by decide +kernel))) (fun s0 H0 C0 cl fp => okTs_nil) (fun s0 H0 C0 cl fp => (@j3 _ _ _ _ _ _ (@Sc.o _ _ _ _ _ C.blk 3 (by decide +kernel)) (@v9 _ _ _ y5) (fun _ _ => rfl))))) (@OkN.dat _ _ _ (@v8 _ _ _ _ x5))) (@sE _ _ _ rfl) rfl) rfl) x9) (fun _ => rfl)) (@x4 _ _ _ _ _ _ (@y8 _ _ _ _ _ (@okR_e _ _ _ _ (@okE_callTy _ _ _ _ _ _ _ _ _ _ callS_tuple (@Sc.gl _ _ _ _ C (by decide +kernel)) T.z_tuple (by decide +kernel) (@okAO_cons _ _ _ _ _ (@Sc.o _ _ _ _ _ C 1 (by decide +kernel)) okAO_nil (@sE _ _ _ rfl)) (by decide +kernel) (by decide +kernel) (@sN _ _ _ _ rfl)))) x9)))
theorem sc_law_take : FnScope ["_law_box_here", "_law_below", "_law_found", "_law_once", "_law_odd", "_law_twice"] ["_law_box_here", "_law_below"] (defScope (top 9)) := ⟨rfl, rfl, rfl, by decide +kernel, rfl, by decide +kernel, by decide +kernel⟩
theorem ok_law_take (g : Good P w K mg base Z T k S) : FnG P w K mg base (k + 1) T.q_law_take.f T.q_law_take.d ["_law_box_here", "_law_below"] (runF 6 io_law_take (b_law_take)) := fnG_of (N := ["_law_box_here", "_law_below", "_law_found", "_law_once", "_law_odd", "_law_twice"]) T.q_law_take.F sc_law_take fun cdv A outer s H hr => by
  have C : Sc (v3 P w K mg base ["_law_box_here", "_law_below", "_law_found", "_law_once", "_law_odd", "_law_twice"] "_law_take" (top 9) T.q_law_take.f cdv A outer s H) ["_law_box_here", "_law_below", "_law_found", "_law_once", "_law_odd", "_law_twice"] (defScope (top 9)) := ⟨rfl, rfl⟩
  exact (@x4 _ _ _ _ _ _ (@q9 _ _ _ _ _ _ _ _ _ (@j5 _ _ _ _ _ _ _ _ _ opS_gt (@v9 _ _ _ (@j3 _ _ _ _ _ _ (@Sc.o _ _ _ _ _ C 0 (by decide +kernel)) (@v9 _ _ _ y5) (fun _ _ => rfl))) (@v9 _ _ _ y5) (nomark _)) (@x4 _ _ _ _ _ _ (@Sc.set _ _ _ _ _ _ _ _ _ C 2 (by decide +kernel) (by decide +kernel) (@v7 _ _ _ _ _ _ _ _ _ opS_mod (@v9 _ _ _ (@okE_callTy _ _ _ _ _ _ _ _ _ _ callS_int (@Sc.gl _ _ _ _ C (by decide +kernel)) T.z_int (by decide +kernel) (@okAO_cons _ _ _ _ _ (@v9 _ _ _ (@j3 _ _ _ _ _ _ (@Sc.o _ _ _ _ _ C 0 (by decide +kernel)) (@v9 _ _ _ y5) (fun _ _ => rfl))) okAO_nil (@sE _ _ _ rfl)) (by decide +kernel) (by decide +kernel) (@sN _ _ _ _ rfl))) (@Sc.o _ _ _ _ _ C 1 (by decide +kernel))) rfl) (@x4 _ _ _ _ _ _ (@Sc.put _ _ _ _ _ _ _ _ _ _ _ _ C 0 (by decide +kernel) y5 (@v7 _ _ _ _ _ _ _ _ _ opS_fdiv (@v9 _ _ _ (@j3 _ _ _ _ _ _ (@Sc.o _ _ _ _ _ C 0 (by decide +kernel)) (@v9 _ _ _ y5) (fun _ _ => rfl))) (@Sc.o _ _ _ _ _ C 1 (by decide +kernel))) (fun _ => rfl) rfl rfl rfl) (@x4 _ _ _ _ _ _ (@y8 _ _ _ _ _ (@Sc.r _ _ _ _ _ _ C 2 (by decide +kernel))) x9))) x9) (@x4 _ _ _ _ _ _ (@Sc.put _ _ _ _ _ _ _ _ _ _ _ _ C 0 (by decide +kernel) y5 (@v7 _ _ _ _ _ _ _ _ _ opS_add (@v9 _ _ _ (@j3 _ _ _ _ _ _ (@Sc.o _ _ _ _ _ C 0 (by decide +kernel)) (@v9 _ _ _ y5) (fun _ _ => rfl))) (@v9 _ _ _ y5)) (fun _ => rfl) rfl rfl rfl) (@x4 _ _ _ _ _ _ (@Sc.set _ _ _ _ _ _ _ _ _ C 3 (by decide +kernel) (by decide +kernel) (@v7 _ _ _ _ _ _ _ _ _ opS_mod (@v9 _ _ _ (@okE_callTy _ _ _ _ _ _ _ _ _ _ callS_int (@Sc.gl _ _ _ _ C (by decide +kernel)) T.z_int (by decide +kernel) (@okAO_cons _ _ _ _ _ (@v9 _ _ _ (@v7 _ _ _ _ _ _ _ _ _ opS_mul2 (@v9 _ _ _ (@v7 _ _ _ _ _ _ _ _ _ opS_add (@v9 _ _ _ (@j3 _ _ _ _ _ _ (@Sc.o _ _ _ _ _ C 0 (by decide +kernel)) (@v9 _ _ _ y5) (fun _ _ => rfl))) (@v9 _ _ _ (@v7 _ _ _ _ _ _ _ _ _ opS_mul2 (@v9 _ _ _ y5) (@v9 _ _ _ (@j3 _ _ _ _ _ _ (@Sc.o _ _ _ _ _ C 0 (by decide +kernel)) (@v9 _ _ _ y5) (fun _ _ => rfl))))))) (@v9 _ _ _ (@v7 _ _ _ _ _ _ _ _ _ opS_add (@v9 _ _ _ y5) (@v9 _ _ _ (@j3 _ _ _ _ _ _ (@Sc.o _ _ _ _ _ C 0 (by decide +kernel)) (@v9 _ _ _ y5) (fun _ _ => rfl))))))) okAO_nil (@sE _ _ _ rfl)) (by decide +kernel) (by decide +kernel) (@sN _ _ _ _ rfl))) (@v9 _ _ _ y5)) rfl) (@x4 _ _ _ _ _ _ (@Sc.set _ _ _ _ _ _ _ _ _ C 4 (by decide +kernel) (by decide +kernel) (@v7 _ _ _ _ _ _ _ _ _ opS_add (@v9 _ _ _ (@v7 _ _ _ _ _ _ _ _ _ opS_mod (@v9 _ _ _ (@okE_callTy _ _ _ _ _ _ _ _ _ _ callS_int (@Sc.gl _ _ _ _ C (by decide +kernel)) T.z_int (by decide +kernel) (@okAO_cons _ _ _ _ _ (@Sc.o _ _ _ _ _ C 3 (by decide +kernel)) okAO_nil (@sE _ _ _ rfl)) (by decide +kernel) (by decide +kernel) (@sN _ _ _ _ rfl))) (@v9 _ _ _ y5))) (@v9 _ _ _ y5)) rfl) (@x4 _ _ _ _ _ _ (@Sc.set _ _ _ _ _ _ _ _ _ C 5 (by decide +kernel) (by decide +kernel) (@v7 _ _ _ _ _ _ _ _ _ opS_mod (@v9 _ _ _ (@okE_callTy _ _ _ _ _ _ _ _ _ _ callS_int (@Sc.gl _ _ _ _ C (by decide +kernel)) T.z_int (by decide +kernel) (@okAO_cons _ _ _ _ _ (@v9 _ _ _ (@v7 _ _ _ _ _ _ _ _ _ opS_mul2 (@v9 _ _ _ (@v7 _ _ _ _ _ _ _ _ _ opS_add (@v9 _ _ _ (@v7 _ _ _ _ _ _ _ _ _ opS_add (@Sc.o _ _ _ _ _ C 3 (by decide +kernel)) (@v9 _ _ _ (@j3 _ _ _ _ _ _ (@Sc.o _ _ _ _ _ C 0 (by decide +kernel)) (@v9 _ _ _ y5) (fun _ _ => rfl))))) (@v9 _ _ _ (@v7 _ _ _ _ _ _ _ _ _ opS_fdiv (@v9 _ _ _ (@j3 _ _ _ _ _ _ (@Sc.o _ _ _ _ _ C 0 (by decide +kernel)) (@v9 _ _ _ y5) (fun _ _ => rfl))) (@v9 _ _ _ y5))))) (@Sc.o _ _ _ _ _ C 4 (by decide +kernel)))) okAO_nil (@sE _ _ _ rfl)) (by decide +kernel) (by decide +kernel) (@sN _ _ _ _ rfl))) (@v9 _ _ _ y5)) rfl) (@x4 _ _ _ _ _ _ (@y8 _ _ _ _ _ (@okR_e _ _ _ _ (@v7 _ _ _ _ _ _ _ _ _ opS_mod (@v9 _ _ _ (@okE_callTy _ _ _ _ _ _ _ _ _ _ callS_int (@Sc.gl _ _ _ _ C (by decide +kernel)) T.z_int (by decide +kernel) (@okAO_cons _ _ _ _ _ (@v9 _ _ _ (@v7 _ _ _ _ _ _ _ _ _ opS_fdiv (@v9 _ _ _ (@v7 _ _ _ _ _ _ _ _ _ opS_mod (@v9 _ _ _ (@okE_callTy _ _ _ _ _ _ _ _ _ _ callS_int (@Sc.gl _ _ _ _ C (by decide +kernel)) T.z_int (by decide +kernel) (@okAO_cons _ _ _ _ _ (@v9 _ _ _ (@v7 _ _ _ _ _ _ _ _ _ opS_add (@v9 _ _ _ (@v7 _ _ _ _ _ _ _ _ _ opS_mul2 (@Sc.o _ _ _ _ _ C 5 (by decide +kernel)) (@v9 _ _ _ y5))) (@Sc.o _ _ _ _ _ C 3 (by decide +kernel)))) okAO_nil (@sE _ _ _ rfl)) (by decide +kernel) (by decide +kernel) (@sN _ _ _ _ rfl))) (@v9 _ _ _ y5))) (@v9 _ _ _ y5))) okAO_nil (@sE _ _ _ rfl)) (by decide +kernel) (by decide +kernel) (@sN _ _ _ _ rfl))) (@Sc.o _ _ _ _ _ C 1 (by decide +kernel))))) x9))))))
theorem sc_law_of : FnScope ["_law_box_here", "_law_some"] ["_law_box_here", "_law_some"] (defScope (top 10)) := ⟨rfl, rfl, rfl, by decide +kernel, rfl, by decide +kernel, by decide +kernel⟩
theorem ok_law_of (g : Good P w K mg base Z T k S) : FnG P w K mg base (k + 1) T.q_law_of.f T.q_law_of.d ["_law_box_here", "_law_some"] (runF 2 io_law_of (b_law_of S.law_take)) := fnG_of (N := ["_law_box_here", "_law_some"]) T.q_law_of.F sc_law_of fun cdv A outer s H hr => by
  have C : Sc (v3 P w K mg base ["_law_box_here", "_law_some"] "_law_of" (top 10) T.q_law_of.f cdv A outer s H) ["_law_box_here", "_law_some"] (defScope (top 10)) := ⟨rfl, rfl⟩
  exact (@x4 _ _ _ _ _ _ (@y8 _ _ _ _ _ (@okR_e _ _ _ _ (@j3 _ _ _ _ _ _ (@Sc.o _ _ _ _ _ C 1 (by decide +kernel)) (@v9 _ _ _ (@q7 _ _ _ _ _ _ _ _ _ _ _ _ (@Sc.df _ _ _ _ C _ _ _ (by decide +kernel) T.q_law_take.m T.q_law_take.F.kp T.q_law_take.b (by decide +kernel)) g.law_take hr (@sN _ _ _ _ rfl) rfl (@okAO_cons _ _ _ _ _ (@Sc.o _ _ _ _ _ C 0 (by decide +kernel)) (@okAO_cons _ _ _ _ _ (@v9 _ _ _ (@okE_callB _ _ _ _ _ _ _ _ _ _ callS_len (@Sc.gl _ _ _ _ C (by decide +kernel)) T.z_len (by decide +kernel) (@okAO_cons _ _ _ _ _ (@Sc.o _ _ _ _ _ C 1 (by decide +kernel)) okAO_nil (@sE _ _ _ rfl)) (by decide +kernel) (by decide +kernel) (@sN _ _ _ _ rfl))) okAO_nil (@sE _ _ _ rfl)) (@sE _ _ _ rfl)) rfl)) (fun _ _ => rfl)))) x9)
theorem sc_law_name : FnScope ["_law_box_here", "_law_some", "_law_k"] ["_law_box_here"] (defScope (top 11)) := ⟨rfl, rfl, rfl, by decide +kernel, rfl, by decide +kernel, by decide +kernel⟩
theorem ok_law_name (g : Good P w K mg base Z T k S) : FnG P w K mg base (k + 1) T.q_law_name.f T.q_law_name.d ["_law_box_here"] (runF 3 io_law_name (b_law_name S.law_take S.law_of)) := fnG_of (N := ["_law_box_here", "_law_some", "_law_k"]) T.q_law_name.F sc_law_name fun cdv A outer s H hr => by
  have C : Sc (v3 P w K mg base ["_law_box_here", "_law_some", "_law_k"] "_law_name" (top 11) T.q_law_name.f cdv A outer s H) ["_law_box_here", "_law_some", "_law_k"] (defScope (top 11)) := ⟨rfl, rfl⟩
  exact (@x4 _ _ _ _ _ _ (@q9 _ _ _ _ _ _ _ _ _ (@j5 _ _ _ _ _ _ _ _ _ (@opS_eq _ (Room.un64 hr)) (@v9 _ _ _ (@q7 _ _ _ _ _ _ _ _ _ _ _ _ (@Sc.df _ _ _ _ C _ _ _ (by decide +kernel) T.q_law_take.m T.q_law_take.F.kp T.q_law_take.b (by decide +kernel)) g.law_take hr (@sN _ _ _ _ rfl) rfl (@okAO_cons _ _ _ _ _ (@Sc.o _ _ _ _ _ C 0 (by decide +kernel)) (@okAO_cons _ _ _ _ _ (@v9 _ _ _ y5) okAO_nil (@sE _ _ _ rfl)) (@sE _ _ _ rfl)) rfl)) (@v9 _ _ _ y5) (nomark _)) (@x4 _ _ _ _ _ _ (@Sc.set _ _ _ _ _ _ _ _ _ C 1 (by decide +kernel) (by decide +kernel) (@x6 _ _ _ _ (by decide +kernel)) rfl) (@x4 _ _ _ _ _ _ (@y8 _ _ _ _ _ (@okR_e _ _ _ _ (@q7 _ _ _ _ _ _ _ _ _ _ _ _ (@Sc.df _ _ _ _ C _ _ _ (by decide +kernel) T.q_law_of.m T.q_law_of.F.kp T.q_law_of.b (by decide +kernel)) g.law_of hr (@sN _ _ _ _ rfl) rfl (@okAO_cons _ _ _ _ _ (@Sc.o _ _ _ _ _ C 0 (by decide +kernel)) (@okAO_cons _ _ _ _ _ (@v9 _ _ _ (@OkN.dat _ _ _ (@okN_split _ _ _ _ _ _ _ (@Sc.v _ _ _ _ _ C 1 (by decide +kernel)) (@x6 _ _ _ _ (by decide +kernel)) (@s1 _ _ rfl) rfl rfl))) okAO_nil (@sE _ _ _ rfl)) (@sE _ _ _ rfl)) rfl))) x9)) x9) (@x4 _ _ _ _ _ _ (@y8 _ _ _ _ _ (@okR_e _ _ _ _ (@okE_join _ _ _ _ _ _ _ (@x6 _ _ _ _ (by decide +kernel)) (@v9 _ _ _ (@OkN.dat _ _ _ (C.lc [ ("_law_k",2) ] rfl (by decide +kernel) (by decide +kernel) rfl (fun _ => rfl) (@okI_range1 _ _ _ _ _ _ (@Sc.gl _ _ _ _ C (by decide +kernel)) T.z_range (@v7 _ _ _ _ _ _ _ _ _ opS_add (@v9 _ _ _ y5) (@v9 _ _ _ (@q7 _ _ _ _ _ _ _ _ _ _ _ _ (@Sc.df _ _ _ _ C _ _ _ (by decide +kernel) T.q_law_take.m T.q_law_take.F.kp T.q_law_take.b (by decide +kernel)) g.law_take hr (@sN _ _ _ _ rfl) rfl (@okAO_cons _ _ _ _ _ (@Sc.o _ _ _ _ _ C 0 (by decide +kernel)) (@okAO_cons _ _ _ _ _ (@v9 _ _ _ y5) okAO_nil (@sE _ _ _ rfl)) (@sE _ _ _ rfl)) rfl))) (@s1 _ _ rfl)) (fun s0 H0 C0 cl fp => (@Sc.g _ _ _ _ _ C.blk 2 (by decide +kernel))) (fun s0 H0 C0 cl fp => okTs_nil) (fun s0 H0 C0 cl fp => (@q7 _ _ _ _ _ _ _ _ _ _ _ _ (@Sc.df _ _ _ _ C.blk _ _ _ (by decide +kernel) T.q_law_of.m T.q_law_of.F.kp T.q_law_of.b (by decide +kernel)) g.law_of hr (@sN _ _ _ _ rfl) rfl (@okAO_cons _ _ _ _ _ (@Sc.o _ _ _ _ _ C.blk 0 (by decide +kernel)) (@okAO_cons _ _ _ _ _ (@v9 _ _ _ (@x6 _ _ _ _ (by decide +kernel))) okAO_nil (@sE _ _ _ rfl)) (@sE _ _ _ rfl)) rfl))))) (@s1 _ _ rfl) rfl rfl))) x9))
theorem sc_law_names : FnScope ["_law_box_here", "_law_many_so", "_law_found", "_law_k", "_law_some", "_law_turn", "_law_letter", "_law_word"] ["_law_box_here", "_law_many_so"] (defScope (top 12)) := ⟨rfl, rfl, rfl, by decide +kernel, rfl, by decide +kernel, by decide +kernel⟩
theorem ok_law_names (g : Good P w K mg base Z T k S) : FnN P w K mg base (k + 1) T.q_law_names.f T.q_law_names.d ["_law_box_here", "_law_many_so"] (runN 8 io_law_names (b_law_names S.law_name)) := fnN_of (N := ["_law_box_here", "_law_many_so", "_law_found", "_law_k", "_law_some", "_law_turn", "_law_letter", "_law_word"]) T.q_law_names.F sc_law_names fun cdv A outer s H hr => by
  have C : Sc (v3 P w K mg base ["_law_box_here", "_law_many_so", "_law_found", "_law_k", "_law_some", "_law_turn", "_law_letter", "_law_word"] "_law_names" (top 12) T.q_law_names.f cdv A outer s H) ["_law_box_here", "_law_many_so", "_law_found", "_law_k", "_law_some", "_law_turn", "_law_letter", "_law_word"] (defScope (top 12)) := ⟨rfl, rfl⟩
  exact (@x4 _ _ _ _ _ _ (@Sc.ownC _ _ _ _ _ _ _ _ _ C 2 cells_body (by decide +kernel) (by decide +kernel) (@v8 _ _ _ _ x5) rfl) (@x4 _ _ _ _ _ _ (@okS_for _ _ _ _ _ _ _ _ _ PassesOwn.never rfl (@okI_range1 _ _ _ _ _ _ (@Sc.gl _ _ _ _ C (by decide +kernel)) T.z_range (@Sc.v _ _ _ _ _ C 1 (by decide +kernel)) (@s1 _ _ rfl)) (@Sc.g _ _ _ _ _ C 3 (by decide +kernel)) (by decide +kernel) (@x4 _ _ _ _ _ _ (@Sc.set _ _ _ _ _ _ _ _ _ C 4 (by decide +kernel) (by decide +kernel) (@v7 _ _ _ _ _ _ _ _ _ opS_add (@v9 _ _ _ (@OkN.dat _ _ _ (C.lc [ ("_law_turn",5) ] rfl (by decide +kernel) (by decide +kernel) rfl (fun _ => rfl) (@okI_range1 _ _ _ _ _ _ (@Sc.gl _ _ _ _ C (by decide +kernel)) T.z_range y5 (@s1 _ _ rfl)) (fun s0 H0 C0 cl fp => (@Sc.g _ _ _ _ _ C.blk 5 (by decide +kernel))) (fun s0 H0 C0 cl fp => okTs_nil) (fun s0 H0 C0 cl fp => (@q7 _ _ _ _ _ _ _ _ _ _ _ _ (@Sc.df _ _ _ _ C.blk _ _ _ (by decide +kernel) T.q_law_name.m T.q_law_name.F.kp T.q_law_name.b (by decide +kernel)) g.law_name hr (@sN _ _ _ _ rfl) rfl (@okAO_cons _ _ _ _ _ (@Sc.o _ _ _ _ _ C.blk 0 (by decide +kernel)) okAO_nil (@sE _ _ _ rfl)) rfl))))) (@v9 _ _ _ (@OkN.dat _ _ _ (C.lc [ ("_law_letter",6) ] rfl (by decide +kernel) (by decide +kernel) rfl (fun _ => rfl) (@okI_data _ _ _ _ (@v9 _ _ _ (@x6 _ _ _ _ (by decide +kernel)))) (fun s0 H0 C0 cl fp => (@Sc.g _ _ _ _ _ C.blk 6 (by decide +kernel))) (fun s0 H0 C0 cl fp => okTs_nil) (fun s0 H0 C0 cl fp => (@v7 _ _ _ _ _ _ _ _ _ opS_mul2 (@Sc.o _ _ _ _ _ C.blk 6 (by decide +kernel)) (@v9 _ _ _ y5))))))) rfl) (@x4 _ _ _ _ _ _ (@w5 _ _ _ _ _ (@Sc.app _ _ _ _ _ _ _ _ _ C 2 (by decide +kernel) (@j3 _ _ _ _ _ _ (@v9 _ _ _ (@OkN.dat _ _ _ (C.lc [ ("_law_word",7) ] rfl (by decide +kernel) (by decide +kernel) rfl (fun _ => rfl) (@okI_data _ _ _ _ (@Sc.o _ _ _ _ _ C 4 (by decide +kernel))) (fun s0 H0 C0 cl fp => (@Sc.g _ _ _ _ _ C.blk 7 (by decide +kernel))) (fun s0 H0 C0 cl fp => (@okTs_one _ _ _ (@j5 _ _ _ _ _ _ _ _ _ (@opS_notIn _ (Room.un65 hr)) (@Sc.o _ _ _ _ _ C.blk 7 (by decide +kernel)) (@Sc.o _ _ _ _ _ C.blk 2 (by decide +kernel)) (by rfl)))) (fun s0 H0 C0 cl fp => (@Sc.v _ _ _ _ _ C.blk 7 (by decide +kernel)))))) (@v9 _ _ _ y5) (fun _ _ => rfl)) (@sE _ _ _ rfl) rfl) rfl) x9)) (fun _ => rfl)) (@x4 _ _ _ _ _ _ (C.retO 2 (by decide +kernel) (by decide +kernel)) x9)))
theorem sc_law_named_setup : FnScope ["_law_box_here", "_law_least_so", "_law_pipes_so", "_law_slots_so", "_law_turn"] ["_law_box_here", "_law_least_so"] (defScope (top 13)) := ⟨rfl, rfl, rfl, by decide +kernel, rfl, by decide +kernel, by decide +kernel⟩
theorem ok_law_named_setup (g : Good P w K mg base Z T k S) : FnG P w K mg base (k + 1) T.q_law_named_setup.f T.q_law_named_setup.d ["_law_box_here", "_law_least_so"] (runF 5 io_law_named_setup (b_law_named_setup S.law_take S.law_of S.law_names)) := fnG_of (N := ["_law_box_here", "_law_least_so", "_law_pipes_so", "_law_slots_so", "_law_turn"]) T.q_law_named_setup.F sc_law_named_setup fun cdv A outer s H hr => by
  have C : Sc (v3 P w K mg base ["_law_box_here", "_law_least_so", "_law_pipes_so", "_law_slots_so", "_law_turn"] "_law_named_setup" (top 13) T.q_law_named_setup.f cdv A outer s H) ["_law_box_here", "_law_least_so", "_law_pipes_so", "_law_slots_so", "_law_turn"] (defScope (top 13)) := ⟨rfl, rfl⟩
  exact (@x4 _ _ _ _ _ _ (@Sc.setC _ _ _ _ _ _ _ _ _ C 2 cells_body (by decide +kernel) (by decide +kernel) (@okE_callTy _ _ _ _ _ _ _ _ _ _ callS_tuple (@Sc.gl _ _ _ _ C (by decide +kernel)) T.z_tuple (by decide +kernel) (@okAO_cons _ _ _ _ _ (@v9 _ _ _ (@OkN.dat _ _ _ (@okN_sort _ _ _ _ _ (@Sc.gl _ _ _ _ C (by decide +kernel)) T.z_sorted (@v9 _ _ _ (@OkN.dat _ _ _ (@okN_fn _ _ _ _ _ _ _ _ _ _ _ _ (@Sc.df _ _ _ _ C _ _ _ (by decide +kernel) T.q_law_names.m T.q_law_names.F.kp T.q_law_names.b (by decide +kernel)) g.law_names hr (@sN _ _ _ _ rfl) rfl (@okAO_cons _ _ _ _ _ (@Sc.o _ _ _ _ _ C 0 (by decide +kernel)) (@okAO_cons _ _ _ _ _ (@v9 _ _ _ (@v7 _ _ _ _ _ _ _ _ _ opS_add (@Sc.o _ _ _ _ _ C 1 (by decide +kernel)) (@v9 _ _ _ (@q7 _ _ _ _ _ _ _ _ _ _ _ _ (@Sc.df _ _ _ _ C _ _ _ (by decide +kernel) T.q_law_take.m T.q_law_take.F.kp T.q_law_take.b (by decide +kernel)) g.law_take hr (@sN _ _ _ _ rfl) rfl (@okAO_cons _ _ _ _ _ (@Sc.o _ _ _ _ _ C 0 (by decide +kernel)) (@okAO_cons _ _ _ _ _ (@v9 _ _ _ (@v7 _ _ _ _ _ _ _ _ _ opS_sub (@v9 _ _ _ y5) (@Sc.o _ _ _ _ _ C 1 (by decide +kernel)))) okAO_nil (@sE _ _ _ rfl)) (@sE _ _ _ rfl)) rfl)))) okAO_nil (@sE _ _ _ rfl)) (@sE _ _ _ rfl)) rfl))) (@sN _ _ _ _ rfl)))) okAO_nil (@sE _ _ _ rfl)) (by decide +kernel) (by decide +kernel) (@sN _ _ _ _ rfl)) rfl) (@x4 _ _ _ _ _ _ (C.setLc 3 [ ("_law_turn",4) ] (by decide +kernel) rfl (by decide +kernel) (by decide +kernel) (by decide +kernel) rfl (fun _ => rfl) (@okI_range1 _ _ _ _ _ _ (@Sc.gl _ _ _ _ C (by decide +kernel)) T.z_range (@q7 _ _ _ _ _ _ _ _ _ _ _ _ (@Sc.df _ _ _ _ C _ _ _ (by decide +kernel) T.q_law_take.m T.q_law_take.F.kp T.q_law_take.b (by decide +kernel)) g.law_take hr (@sN _ _ _ _ rfl) rfl (@okAO_cons _ _ _ _ _ (@Sc.o _ _ _ _ _ C 0 (by decide +kernel)) (@okAO_cons _ _ _ _ _ (@v9 _ _ _ y5) okAO_nil (@sE _ _ _ rfl)) (@sE _ _ _ rfl)) rfl) (@s1 _ _ rfl)) (fun s0 H0 C0 cl fp => (@Sc.g _ _ _ _ _ C.blk 4 (by decide +kernel))) (fun s0 H0 C0 cl fp => okTs_nil) (fun s0 H0 C0 cl fp => (@q7 _ _ _ _ _ _ _ _ _ _ _ _ (@Sc.df _ _ _ _ C.blk _ _ _ (by decide +kernel) T.q_law_of.m T.q_law_of.F.kp T.q_law_of.b (by decide +kernel)) g.law_of hr (@sN _ _ _ _ rfl) rfl (@okAO_cons _ _ _ _ _ (@Sc.o _ _ _ _ _ C.blk 0 (by decide +kernel)) (@okAO_cons _ _ _ _ _ (@v9 _ _ _ (@v7 _ _ _ _ _ _ _ _ _ opS_add (@Sc.o _ _ _ _ _ C.blk 2 (by decide +kernel)) (@v9 _ _ _ (@x8 _ _ _ _ _ (@x3 _ _ _ _ _ v6 x5 (@sE _ _ _ rfl)))))) okAO_nil (@sE _ _ _ rfl)) (@sE _ _ _ rfl)) rfl))) (@x4 _ _ _ _ _ _ (@y8 _ _ _ _ _ (@okR_e _ _ _ _ (@x8 _ _ _ _ _ (@x3 _ _ _ _ _ (@v7 _ _ _ _ _ _ _ _ _ opS_add (@v9 _ _ _ y5) (@v9 _ _ _ (@q7 _ _ _ _ _ _ _ _ _ _ _ _ (@Sc.df _ _ _ _ C _ _ _ (by decide +kernel) T.q_law_take.m T.q_law_take.F.kp T.q_law_take.b (by decide +kernel)) g.law_take hr (@sN _ _ _ _ rfl) rfl (@okAO_cons _ _ _ _ _ (@Sc.o _ _ _ _ _ C 0 (by decide +kernel)) (@okAO_cons _ _ _ _ _ (@v9 _ _ _ y5) okAO_nil (@sE _ _ _ rfl)) (@sE _ _ _ rfl)) rfl))) (@x3 _ _ _ _ _ (@v7 _ _ _ _ _ _ _ _ _ opS_add (@v9 _ _ _ y5) (@v9 _ _ _ (@q7 _ _ _ _ _ _ _ _ _ _ _ _ (@Sc.df _ _ _ _ C _ _ _ (by decide +kernel) T.q_law_take.m T.q_law_take.F.kp T.q_law_take.b (by decide +kernel)) g.law_take hr (@sN _ _ _ _ rfl) rfl (@okAO_cons _ _ _ _ _ (@Sc.o _ _ _ _ _ C 0 (by decide +kernel)) (@okAO_cons _ _ _ _ _ (@v9 _ _ _ y5) okAO_nil (@sE _ _ _ rfl)) (@sE _ _ _ rfl)) rfl))) (@x3 _ _ _ _ _ (@Sc.v _ _ _ _ _ C 2 (by decide +kernel)) (@x3 _ _ _ _ _ (@okE_callTy _ _ _ _ _ _ _ _ _ _ callS_tuple (@Sc.gl _ _ _ _ C (by decide +kernel)) T.z_tuple (by decide +kernel) (@okAO_cons _ _ _ _ _ (@Sc.o _ _ _ _ _ C 3 (by decide +kernel)) okAO_nil (@sE _ _ _ rfl)) (by decide +kernel) (by decide +kernel) (@sN _ _ _ _ rfl)) x5 (@sE _ _ _ rfl)) (@sE _ _ _ rfl)) (@sE _ _ _ rfl)) (@sE _ _ _ rfl))))) x9)))
theorem sc_law_place : FnScope ["_law_box_here", "_law_setup_so", "_law_pipes_so", "_law_slots_so"] ["_law_box_here", "_law_setup_so"] (defScope (top 14)) := ⟨rfl, rfl, rfl, by decide +kernel, rfl, by decide +kernel, by decide +kernel⟩
theorem ok_law_place (g : Good P w K mg base Z T k S) : FnG P w K mg base (k + 1) T.q_law_place.f T.q_law_place.d ["_law_box_here", "_law_setup_so"] (runF 4 io_law_place (b_law_place S.law_take S.law_of)) := fnG_of (N := ["_law_box_here", "_law_setup_so", "_law_pipes_so", "_law_slots_so"]) T.q_law_place.F sc_law_place fun cdv A outer s H hr => by
  have C : Sc (v3 P w K mg base ["_law_box_here", "_law_setup_so", "_law_pipes_so", "_law_slots_so"] "_law_place" (top 14) T.q_law_place.f cdv A outer s H) ["_law_box_here", "_law_setup_so", "_law_pipes_so", "_law_slots_so"] (defScope (top 14)) := ⟨rfl, rfl⟩
  exact (@x4 _ _ _ _ _ _ (@okS_unp _ _ _ _ _ _ _ (@okE_cut _ _ _ _ _ _ _ _ _ (@Sc.o _ _ _ _ _ C 1 (by decide +kernel)) (@okP_some _ _ _ y5) okP_none) (@okG_tup _ _ _ _ _ rfl (@okGs_cons _ _ _ _ _ (@Sc.g _ _ _ _ _ C 2 (by decide +kernel)) (@okGs_cons _ _ _ _ _ (@Sc.g _ _ _ _ _ C 3 (by decide +kernel)) okGs_nil rfl) rfl) rfl rfl) (by decide +kernel) rfl rfl rfl) (@x4 _ _ _ _ _ _ (@q9 _ _ _ _ _ _ _ _ _ (@OkW.t _ _ _ (@okW_and _ _ _ _ _ _ _ (@j5 _ _ _ _ _ _ _ _ _ (@opS_ne _ (Room.un64 hr)) (@Sc.o _ _ _ _ _ C 3 (by decide +kernel)) (@v9 _ _ _ (@x8 _ _ _ _ _ x5)) (nomark _)) (@okW_and1 _ _ _ _ (@j5 _ _ _ _ _ _ _ _ _ (@opS_eq _ (Room.un64 hr)) (@v9 _ _ _ (@q7 _ _ _ _ _ _ _ _ _ _ _ _ (@Sc.df _ _ _ _ C _ _ _ (by decide +kernel) T.q_law_take.m T.q_law_take.F.kp T.q_law_take.b (by decide +kernel)) g.law_take hr (@sN _ _ _ _ rfl) rfl (@okAO_cons _ _ _ _ _ (@Sc.o _ _ _ _ _ C 0 (by decide +kernel)) (@okAO_cons _ _ _ _ _ (@v9 _ _ _ y5) okAO_nil (@sE _ _ _ rfl)) (@sE _ _ _ rfl)) rfl)) (@v9 _ _ _ y5) (nomark _))))) (@x4 _ _ _ _ _ _ (@y8 _ _ _ _ _ (@okR_e _ _ _ _ (@x8 _ _ _ _ _ (@x3 _ _ _ _ _ (@x6 _ _ _ _ (by decide +kernel)) (@x3 _ _ _ _ _ (@q7 _ _ _ _ _ _ _ _ _ _ _ _ (@Sc.df _ _ _ _ C _ _ _ (by decide +kernel) T.q_law_take.m T.q_law_take.F.kp T.q_law_take.b (by decide +kernel)) g.law_take hr (@sN _ _ _ _ rfl) rfl (@okAO_cons _ _ _ _ _ (@Sc.o _ _ _ _ _ C 0 (by decide +kernel)) (@okAO_cons _ _ _ _ _ (@v9 _ _ _ (@okE_callB _ _ _ _ _ _ _ _ _ _ callS_len (@Sc.gl _ _ _ _ C (by decide +kernel)) T.z_len (by decide +kernel) (@okAO_cons _ _ _ _ _ (@Sc.o _ _ _ _ _ C 3 (by decide +kernel)) okAO_nil (@sE _ _ _ rfl)) (by decide +kernel) (by decide +kernel) (@sN _ _ _ _ rfl))) okAO_nil (@sE _ _ _ rfl)) (@sE _ _ _ rfl)) rfl) x5 (@sE _ _ _ rfl)) (@sE _ _ _ rfl))))) x9) x9) (@x4 _ _ _ _ _ _ (@y8 _ _ _ _ _ (@okR_e _ _ _ _ (@x8 _ _ _ _ _ (@x3 _ _ _ _ _ (@x6 _ _ _ _ (by decide +kernel)) (@x3 _ _ _ _ _ (@q7 _ _ _ _ _ _ _ _ _ _ _ _ (@Sc.df _ _ _ _ C _ _ _ (by decide +kernel) T.q_law_of.m T.q_law_of.F.kp T.q_law_of.b (by decide +kernel)) g.law_of hr (@sN _ _ _ _ rfl) rfl (@okAO_cons _ _ _ _ _ (@Sc.o _ _ _ _ _ C 0 (by decide +kernel)) (@okAO_cons _ _ _ _ _ (@Sc.o _ _ _ _ _ C 2 (by decide +kernel)) okAO_nil (@sE _ _ _ rfl)) (@sE _ _ _ rfl)) rfl) x5 (@sE _ _ _ rfl)) (@sE _ _ _ rfl))))) x9)))
theorem sc_law_letters : FnScope ["_law_box_here", "_law_most_so", "_law_turn"] ["_law_box_here", "_law_most_so"] (defScope (top 15)) := ⟨rfl, rfl, rfl, by decide +kernel, rfl, by decide +kernel, by decide +kernel⟩
theorem ok_law_letters (g : Good P w K mg base Z T k S) : FnG P w K mg base (k + 1) T.q_law_letters.f T.q_law_letters.d ["_law_box_here", "_law_most_so"] (runF 3 io_law_letters (b_law_letters S.law_take S.law_of)) := fnG_of (N := ["_law_box_here", "_law_most_so", "_law_turn"]) T.q_law_letters.F sc_law_letters fun cdv A outer s H hr => by
  have C : Sc (v3 P w K mg base ["_law_box_here", "_law_most_so", "_law_turn"] "_law_letters" (top 15) T.q_law_letters.f cdv A outer s H) ["_law_box_here", "_law_most_so", "_law_turn"] (defScope (top 15)) := ⟨rfl, rfl⟩
  exact (@x4 _ _ _ _ _ _ (@y8 _ _ _ _ _ (@okR_e _ _ _ _ (@okE_join _ _ _ _ _ _ _ (@x6 _ _ _ _ (by decide +kernel)) (@v9 _ _ _ (@OkN.dat _ _ _ (C.lc [ ("_law_turn",2) ] rfl (by decide +kernel) (by decide +kernel) rfl (fun _ => rfl) (@okI_range1 _ _ _ _ _ _ (@Sc.gl _ _ _ _ C (by decide +kernel)) T.z_range (@v7 _ _ _ _ _ _ _ _ _ opS_add (@v9 _ _ _ y5) (@v9 _ _ _ (@q7 _ _ _ _ _ _ _ _ _ _ _ _ (@Sc.df _ _ _ _ C _ _ _ (by decide +kernel) T.q_law_take.m T.q_law_take.F.kp T.q_law_take.b (by decide +kernel)) g.law_take hr (@sN _ _ _ _ rfl) rfl (@okAO_cons _ _ _ _ _ (@Sc.o _ _ _ _ _ C 0 (by decide +kernel)) (@okAO_cons _ _ _ _ _ (@Sc.o _ _ _ _ _ C 1 (by decide +kernel)) okAO_nil (@sE _ _ _ rfl)) (@sE _ _ _ rfl)) rfl))) (@s1 _ _ rfl)) (fun s0 H0 C0 cl fp => (@Sc.g _ _ _ _ _ C.blk 2 (by decide +kernel))) (fun s0 H0 C0 cl fp => okTs_nil) (fun s0 H0 C0 cl fp => (@q7 _ _ _ _ _ _ _ _ _ _ _ _ (@Sc.df _ _ _ _ C.blk _ _ _ (by decide +kernel) T.q_law_of.m T.q_law_of.F.kp T.q_law_of.b (by decide +kernel)) g.law_of hr (@sN _ _ _ _ rfl) rfl (@okAO_cons _ _ _ _ _ (@Sc.o _ _ _ _ _ C.blk 0 (by decide +kernel)) (@okAO_cons _ _ _ _ _ (@v9 _ _ _ (@x6 _ _ _ _ (by decide +kernel))) okAO_nil (@sE _ _ _ rfl)) (@sE _ _ _ rfl)) rfl))))) (@s1 _ _ rfl) rfl rfl))) x9)
theorem sc_law_deed : FnScope ["_law_box_here", "_law_setup_so", "_law_gone", "_law_way", "_law_place_so"] ["_law_box_here", "_law_setup_so", "_law_gone"] (defScope (top 16)) := ⟨rfl, rfl, rfl, by decide +kernel, rfl, by decide +kernel, by decide +kernel⟩
theorem ok_law_deed (g : Good P w K mg base Z T k S) : FnG P w K mg base (k + 1) T.q_law_deed.f T.q_law_deed.d ["_law_box_here", "_law_setup_so", "_law_gone"] (runF 5 io_law_deed (b_law_deed S.law_take S.law_of S.law_place S.law_letters)) := fnG_of (N := ["_law_box_here", "_law_setup_so", "_law_gone", "_law_way", "_law_place_so"]) T.q_law_deed.F sc_law_deed fun cdv A outer s H hr => by
  have C : Sc (v3 P w K mg base ["_law_box_here", "_law_setup_so", "_law_gone", "_law_way", "_law_place_so"] "_law_deed" (top 16) T.q_law_deed.f cdv A outer s H) ["_law_box_here", "_law_setup_so", "_law_gone", "_law_way", "_law_place_so"] (defScope (top 16)) := ⟨rfl, rfl⟩
  exact (@x4 _ _ _ _ _ _ (C.two 3 4 rfl (by decide +kernel) (by decide +kernel) (by decide +kernel) (by decide +kernel) (@okAv_d _ _ _ _ _ (@q7 _ _ _ _ _ _ _ _ _ _ _ _ (@Sc.df _ _ _ _ C _ _ _ (by decide +kernel) T.q_law_take.m T.q_law_take.F.kp T.q_law_take.b (by decide +kernel)) g.law_take hr (@sN _ _ _ _ rfl) rfl (@okAO_cons _ _ _ _ _ (@Sc.o _ _ _ _ _ C 0 (by decide +kernel)) (@okAO_cons _ _ _ _ _ (@v9 _ _ _ y5) okAO_nil (@sE _ _ _ rfl)) (@sE _ _ _ rfl)) rfl) (@okAv_d _ _ _ _ _ (@q7 _ _ _ _ _ _ _ _ _ _ _ _ (@Sc.df _ _ _ _ C _ _ _ (by decide +kernel) T.q_law_place.m T.q_law_place.F.kp T.q_law_place.b (by decide +kernel)) g.law_place hr (@sN _ _ _ _ rfl) rfl (@okAO_cons _ _ _ _ _ (@Sc.o _ _ _ _ _ C 0 (by decide +kernel)) (@okAO_cons _ _ _ _ _ (@Sc.o _ _ _ _ _ C 1 (by decide +kernel)) okAO_nil (@sE _ _ _ rfl)) (@sE _ _ _ rfl)) rfl) okAv_nil (@sE _ _ _ rfl)) (@sE _ _ _ rfl)) rfl rfl) (@x4 _ _ _ _ _ _ (@q9 _ _ _ _ _ _ _ _ _ (@j5 _ _ _ _ _ _ _ _ _ opS_lt (@Sc.o _ _ _ _ _ C 3 (by decide +kernel)) (@v9 _ _ _ y5) (nomark _)) (@x4 _ _ _ _ _ _ (@y8 _ _ _ _ _ (@okR_e _ _ _ _ (@x8 _ _ _ _ _ (@x3 _ _ _ _ _ (@okE_if _ _ _ _ _ _ _ _ (@j5 _ _ _ _ _ _ _ _ _ opS_lt (@Sc.o _ _ _ _ _ C 3 (by decide +kernel)) (@v9 _ _ _ y5) (nomark _)) (@x6 _ _ _ _ (by decide +kernel)) (@x6 _ _ _ _ (by decide +kernel))) (@x3 _ _ _ _ _ (@Sc.v _ _ _ _ _ C 4 (by decide +kernel)) (@x3 _ _ _ _ _ (@v7 _ _ _ _ _ _ _ _ _ opS_add (@v9 _ _ _ y5) (@v9 _ _ _ (@q7 _ _ _ _ _ _ _ _ _ _ _ _ (@Sc.df _ _ _ _ C _ _ _ (by decide +kernel) T.q_law_take.m T.q_law_take.F.kp T.q_law_take.b (by decide +kernel)) g.law_take hr (@sN _ _ _ _ rfl) rfl (@okAO_cons _ _ _ _ _ (@Sc.o _ _ _ _ _ C 0 (by decide +kernel)) (@okAO_cons _ _ _ _ _ (@v9 _ _ _ y5) okAO_nil (@sE _ _ _ rfl)) (@sE _ _ _ rfl)) rfl))) x5 (@sE _ _ _ rfl)) (@sE _ _ _ rfl)) (@sE _ _ _ rfl))))) x9) x9) (@x4 _ _ _ _ _ _ (@q9 _ _ _ _ _ _ _ _ _ (@j5 _ _ _ _ _ _ _ _ _ opS_lt (@Sc.o _ _ _ _ _ C 3 (by decide +kernel)) (@v9 _ _ _ y5) (nomark _)) (@x4 _ _ _ _ _ _ (@y8 _ _ _ _ _ (@okR_e _ _ _ _ (@x8 _ _ _ _ _ (@x3 _ _ _ _ _ (@x6 _ _ _ _ (by decide +kernel)) (@x3 _ _ _ _ _ (@Sc.v _ _ _ _ _ C 4 (by decide +kernel)) (@x3 _ _ _ _ _ (@q7 _ _ _ _ _ _ _ _ _ _ _ _ (@Sc.df _ _ _ _ C _ _ _ (by decide +kernel) T.q_law_letters.m T.q_law_letters.F.kp T.q_law_letters.b (by decide +kernel)) g.law_letters hr (@sN _ _ _ _ rfl) rfl (@okAO_cons _ _ _ _ _ (@Sc.o _ _ _ _ _ C 0 (by decide +kernel)) (@okAO_cons _ _ _ _ _ (@v9 _ _ _ y5) okAO_nil (@sE _ _ _ rfl)) (@sE _ _ _ rfl)) rfl) x5 (@sE _ _ _ rfl)) (@sE _ _ _ rfl)) (@sE _ _ _ rfl))))) x9) x9) (@x4 _ _ _ _ _ _ (@q9 _ _ _ _ _ _ _ _ _ (@j5 _ _ _ _ _ _ _ _ _ (@opS_eq _ (Room.un64 hr)) (@Sc.o _ _ _ _ _ C 3 (by decide +kernel)) (@v9 _ _ _ y5) (nomark _)) (@x4 _ _ _ _ _ _ (@y8 _ _ _ _ _ (@okR_e _ _ _ _ (@x8 _ _ _ _ _ (@x3 _ _ _ _ _ (@x6 _ _ _ _ (by decide +kernel)) (@x3 _ _ _ _ _ (@Sc.v _ _ _ _ _ C 4 (by decide +kernel)) x5 (@sE _ _ _ rfl)) (@sE _ _ _ rfl))))) x9) x9) (@x4 _ _ _ _ _ _ (@q9 _ _ _ _ _ _ _ _ _ (@j5 _ _ _ _ _ _ _ _ _ opS_lt (@Sc.o _ _ _ _ _ C 3 (by decide +kernel)) (@v9 _ _ _ y5) (nomark _)) (@x4 _ _ _ _ _ _ (@y8 _ _ _ _ _ (@okR_e _ _ _ _ (@x8 _ _ _ _ _ (@x3 _ _ _ _ _ (@x6 _ _ _ _ (by decide +kernel)) (@x3 _ _ _ _ _ (@q7 _ _ _ _ _ _ _ _ _ _ _ _ (@Sc.df _ _ _ _ C _ _ _ (by decide +kernel) T.q_law_take.m T.q_law_take.F.kp T.q_law_take.b (by decide +kernel)) g.law_take hr (@sN _ _ _ _ rfl) rfl (@okAO_cons _ _ _ _ _ (@Sc.o _ _ _ _ _ C 0 (by decide +kernel)) (@okAO_cons _ _ _ _ _ (@v9 _ _ _ y5) okAO_nil (@sE _ _ _ rfl)) (@sE _ _ _ rfl)) rfl) x5 (@sE _ _ _ rfl)) (@sE _ _ _ rfl))))) x9) x9) (@x4 _ _ _ _ _ _ (@q9 _ _ _ _ _ _ _ _ _ (@j5 _ _ _ _ _ _ _ _ _ opS_lt (@Sc.o _ _ _ _ _ C 3 (by decide +kernel)) (@v9 _ _ _ y5) (nomark _)) (@x4 _ _ _ _ _ _ (@y8 _ _ _ _ _ (@okR_e _ _ _ _ (@x8 _ _ _ _ _ (@x3 _ _ _ _ _ (@x6 _ _ _ _ (by decide +kernel)) (@x3 _ _ _ _ _ (@okE_cmp _ _ _ _ _ _ _ _ _ opS_gt (@v9 _ _ _ (@q7 _ _ _ _ _ _ _ _ _ _ _ _ (@Sc.df _ _ _ _ C _ _ _ (by decide +kernel) T.q_law_take.m T.q_law_take.F.kp T.q_law_take.b (by decide +kernel)) g.law_take hr (@sN _ _ _ _ rfl) rfl (@okAO_cons _ _ _ _ _ (@Sc.o _ _ _ _ _ C 0 (by decide +kernel)) (@okAO_cons _ _ _ _ _ (@v9 _ _ _ y5) okAO_nil (@sE _ _ _ rfl)) (@sE _ _ _ rfl)) rfl)) (@v9 _ _ _ y5) (nomark _)) x5 (@sE _ _ _ rfl)) (@sE _ _ _ rfl))))) x9) x9) (@x4 _ _ _ _ _ _ (@q9 _ _ _ _ _ _ _ _ _ (@OkW.t _ _ _ (@okW_and _ _ _ _ _ _ _ (@j5 _ _ _ _ _ _ _ _ _ opS_lt (@Sc.o _ _ _ _ _ C 3 (by decide +kernel)) (@v9 _ _ _ y5) (nomark _)) (@okW_and1 _ _ _ _ (@j5 _ _ _ _ _ _ _ _ _ (@opS_ne _ (Room.un64 hr)) (@v9 _ _ _ (@j3 _ _ _ _ _ _ (@Sc.o _ _ _ _ _ C 1 (by decide +kernel)) (@v9 _ _ _ y5) (fun _ _ => rfl))) (@v9 _ _ _ (@x8 _ _ _ _ _ x5)) (nomark _))))) (@x4 _ _ _ _ _ _ (@y8 _ _ _ _ _ (@okR_e _ _ _ _ (@x8 _ _ _ _ _ (@x3 _ _ _ _ _ (@x6 _ _ _ _ (by decide +kernel)) (@x3 _ _ _ _ _ (@q7 _ _ _ _ _ _ _ _ _ _ _ _ (@Sc.df _ _ _ _ C _ _ _ (by decide +kernel) T.q_law_take.m T.q_law_take.F.kp T.q_law_take.b (by decide +kernel)) g.law_take hr (@sN _ _ _ _ rfl) rfl (@okAO_cons _ _ _ _ _ (@Sc.o _ _ _ _ _ C 0 (by decide +kernel)) (@okAO_cons _ _ _ _ _ (@v9 _ _ _ (@okE_callB _ _ _ _ _ _ _ _ _ _ callS_len (@Sc.gl _ _ _ _ C (by decide +kernel)) T.z_len (by decide +kernel) (@okAO_cons _ _ _ _ _ (@v9 _ _ _ (@j3 _ _ _ _ _ _ (@Sc.o _ _ _ _ _ C 1 (by decide +kernel)) (@v9 _ _ _ y5) (fun _ _ => rfl))) okAO_nil (@sE _ _ _ rfl)) (by decide +kernel) (by decide +kernel) (@sN _ _ _ _ rfl))) okAO_nil (@sE _ _ _ rfl)) (@sE _ _ _ rfl)) rfl) (@x3 _ _ _ _ _ (@q7 _ _ _ _ _ _ _ _ _ _ _ _ (@Sc.df _ _ _ _ C _ _ _ (by decide +kernel) T.q_law_of.m T.q_law_of.F.kp T.q_law_of.b (by decide +kernel)) g.law_of hr (@sN _ _ _ _ rfl) rfl (@okAO_cons _ _ _ _ _ (@Sc.o _ _ _ _ _ C 0 (by decide +kernel)) (@okAO_cons _ _ _ _ _ (@v9 _ _ _ (@v7 _ _ _ _ _ _ _ _ _ opS_add (@v9 _ _ _ (@j3 _ _ _ _ _ _ (@Sc.o _ _ _ _ _ C 1 (by decide +kernel)) (@v9 _ _ _ y5) (fun _ _ => rfl))) (@v9 _ _ _ (@x8 _ _ _ _ _ (@x3 _ _ _ _ _ v6 x5 (@sE _ _ _ rfl)))))) okAO_nil (@sE _ _ _ rfl)) (@sE _ _ _ rfl)) rfl) x5 (@sE _ _ _ rfl)) (@sE _ _ _ rfl)) (@sE _ _ _ rfl))))) x9) x9) (@x4 _ _ _ _ _ _ (@q9 _ _ _ _ _ _ _ _ _ (@OkW.t _ _ _ (@okW_and _ _ _ _ _ _ _ (@j5 _ _ _ _ _ _ _ _ _ opS_lt (@Sc.o _ _ _ _ _ C 3 (by decide +kernel)) (@v9 _ _ _ y5) (nomark _)) (@okW_and1 _ _ _ _ (@j5 _ _ _ _ _ _ _ _ _ (@opS_ne _ (Room.un64 hr)) (@Sc.o _ _ _ _ _ C 2 (by decide +kernel)) (@v9 _ _ _ (@OkN.dat _ _ _ (@v8 _ _ _ _ x5))) (nomark _))))) (@x4 _ _ _ _ _ _ (@y8 _ _ _ _ _ (@okR_e _ _ _ _ (@x8 _ _ _ _ _ (@x3 _ _ _ _ _ (@x6 _ _ _ _ (by decide +kernel)) (@x3 _ _ _ _ _ (@q7 _ _ _ _ _ _ _ _ _ _ _ _ (@Sc.df _ _ _ _ C _ _ _ (by decide +kernel) T.q_law_of.m T.q_law_of.F.kp T.q_law_of.b (by decide +kernel)) g.law_of hr (@sN _ _ _ _ rfl) rfl (@okAO_cons _ _ _ _ _ (@Sc.o _ _ _ _ _ C 0 (by decide +kernel)) (@okAO_cons _ _ _ _ _ (@Sc.o _ _ _ _ _ C 2 (by decide +kernel)) okAO_nil (@sE _ _ _ rfl)) (@sE _ _ _ rfl)) rfl) x5 (@sE _ _ _ rfl)) (@sE _ _ _ rfl))))) x9) x9) (@x4 _ _ _ _ _ _ (@y8 _ _ _ _ _ (@okR_if _ _ _ _ _ _ _ _ _ (@j5 _ _ _ _ _ _ _ _ _ (@opS_eq _ (Room.un64 hr)) (@Sc.o _ _ _ _ _ C 3 (by decide +kernel)) (@v9 _ _ _ y5) (nomark _)) (@okR_e _ _ _ _ (@x8 _ _ _ _ _ (@x3 _ _ _ _ _ (@x6 _ _ _ _ (by decide +kernel)) x5 (@sE _ _ _ rfl)))) (@okR_e _ _ _ _ (@x8 _ _ _ _ _ (@x3 _ _ _ _ _ (@x6 _ _ _ _ (by decide +kernel)) x5 (@sE _ _ _ rfl)))))) x9)))))))))
theorem sc_law_ended : FnScope ["_law_batch", "_law_tag", "_law_deed_here", "_law_words", "_law_word"] ["_law_batch"] (defScope (top 17)) := ⟨rfl, rfl, rfl, by decide +kernel, rfl, by decide +kernel, by decide +kernel⟩
theorem ok_law_ended (g : Good P w K mg base Z T k S) : FnG P w K mg base (k + 1) T.q_law_ended.f T.q_law_ended.d ["_law_batch"] (runF 5 io_law_ended (b_law_ended)) := fnG_of (N := ["_law_batch", "_law_tag", "_law_deed_here", "_law_words", "_law_word"]) T.q_law_ended.F sc_law_ended fun cdv A outer s H hr => by
  have C : Sc (v3 P w K mg base ["_law_batch", "_law_tag", "_law_deed_here", "_law_words", "_law_word"] "_law_ended" (top 17) T.q_law_ended.f cdv A outer s H) ["_law_batch", "_law_tag", "_law_deed_here", "_law_words", "_law_word"] (defScope (top 17)) := ⟨rfl, rfl⟩
  exact (@x4 _ _ _ _ _ _ (@okS_unp _ _ _ _ _ _ _ (@j3 _ _ _ _ _ _ (@Sc.o _ _ _ _ _ C 0 (by decide +kernel)) (@v9 _ _ _ (@okE_neg _ _ _ _ y5)) (fun _ _ => rfl)) (@okG_tup _ _ _ _ _ rfl (@okGs_cons _ _ _ _ _ (@Sc.g _ _ _ _ _ C 1 (by decide +kernel)) (@okGs_cons _ _ _ _ _ (@Sc.g _ _ _ _ _ C 2 (by decide +kernel)) (@okGs_cons _ _ _ _ _ (@Sc.g _ _ _ _ _ C 3 (by decide +kernel)) okGs_nil rfl) rfl) rfl) rfl rfl) (by decide +kernel) rfl rfl rfl) (@x4 _ _ _ _ _ _ (@q9 _ _ _ _ _ _ _ _ _ (@j5 _ _ _ _ _ _ _ _ _ (@opS_ne _ (Room.un64 hr)) (@v9 _ _ _ (@j3 _ _ _ _ _ _ (@Sc.o _ _ _ _ _ C 2 (by decide +kernel)) (@v9 _ _ _ y5) (fun _ _ => rfl))) (@v9 _ _ _ (@x6 _ _ _ _ (by decide +kernel))) (nomark _)) (@x4 _ _ _ _ _ _ (@Sc.put _ _ _ _ _ _ _ _ _ _ _ _ C 0 (by decide +kernel) (@okE_neg _ _ _ _ y5) (@x8 _ _ _ _ _ (@x3 _ _ _ _ _ (@Sc.v _ _ _ _ _ C 1 (by decide +kernel)) (@x3 _ _ _ _ _ (@Sc.v _ _ _ _ _ C 2 (by decide +kernel)) (@x3 _ _ _ _ _ (@okE_callTy _ _ _ _ _ _ _ _ _ _ callS_tuple (@Sc.gl _ _ _ _ C (by decide +kernel)) T.z_tuple (by decide +kernel) (@okAO_cons _ _ _ _ _ (@v9 _ _ _ (@OkN.dat _ _ _ (C.lc [ ("_law_word",4) ] rfl (by decide +kernel) (by decide +kernel) rfl (fun _ => rfl) (@okI_data _ _ _ _ (@Sc.o _ _ _ _ _ C 3 (by decide +kernel))) (fun s0 H0 C0 cl fp => (@Sc.g _ _ _ _ _ C.blk 4 (by decide +kernel))) (fun s0 H0 C0 cl fp => (@okTs_one _ _ _ (@j5 _ _ _ _ _ _ _ _ _ (@opS_notIn _ (Room.un65 hr)) (@Sc.o _ _ _ _ _ C.blk 4 (by decide +kernel)) (@v9 _ _ _ (@x8 _ _ _ _ _ (@x3 _ _ _ _ _ (@x6 _ _ _ _ (by decide +kernel)) (@x3 _ _ _ _ _ (@x6 _ _ _ _ (by decide +kernel)) x5 (@sE _ _ _ rfl)) (@sE _ _ _ rfl)))) (by rfl)))) (fun s0 H0 C0 cl fp => (@Sc.v _ _ _ _ _ C.blk 4 (by decide +kernel)))))) okAO_nil (@sE _ _ _ rfl)) (by decide +kernel) (by decide +kernel) (@sN _ _ _ _ rfl)) x5 (@sE _ _ _ rfl)) (@sE _ _ _ rfl)) (@sE _ _ _ rfl))) (fun _ => rfl) rfl rfl rfl) x9) x9) (@x4 _ _ _ _ _ _ (@y8 _ _ _ _ _ (@okR_e _ _ _ _ (@okE_callTy _ _ _ _ _ _ _ _ _ _ callS_tuple (@Sc.gl _ _ _ _ C (by decide +kernel)) T.z_tuple (by decide +kernel) (@okAO_cons _ _ _ _ _ (@Sc.o _ _ _ _ _ C 0 (by decide +kernel)) okAO_nil (@sE _ _ _ rfl)) (by decide +kernel) (by decide +kernel) (@sN _ _ _ _ rfl)))) x9)))
theorem sc_law_lot : FnScope ["_law_box_here", "_law_setup_so", "_law_tags_so", "_law_gone", "_law_many_so", "_law_batch", "_law_is_first", "_law_turn", "_law_tag", "_law_words", "_law_deed_here", "_law_way", "_law_timer"] ["_law_box_here", "_law_setup_so", "_law_tags_so", "_law_gone", "_law_many_so"] (defScope (top 18)) := ⟨rfl, rfl, rfl, by decide +kernel, rfl, by decide +kernel, by decide +kernel⟩
theorem ok_law_lot (g : Good P w K mg base Z T k S) : FnG P w K mg base (k + 1) T.q_law_lot.f T.q_law_lot.d ["_law_box_here", "_law_setup_so", "_law_tags_so", "_law_gone", "_law_many_so"] (runF 13 io_law_lot (b_law_lot S.law_take S.law_deed S.law_ended)) := fnG_of (N := ["_law_box_here", "_law_setup_so", "_law_tags_so", "_law_gone", "_law_many_so", "_law_batch", "_law_is_first", "_law_turn", "_law_tag", "_law_words", "_law_deed_here", "_law_way", "_law_timer"]) T.q_law_lot.F sc_law_lot fun cdv A outer s H hr => by
  have C : Sc (v3 P w K mg base ["_law_box_here", "_law_setup_so", "_law_tags_so", "_law_gone", "_law_many_so", "_law_batch", "_law_is_first", "_law_turn", "_law_tag", "_law_words", "_law_deed_here", "_law_way", "_law_timer"] "_law_lot" (top 18) T.q_law_lot.f cdv A outer s H) ["_law_box_here", "_law_setup_so", "_law_tags_so", "_law_gone", "_law_many_so", "_law_batch", "_law_is_first", "_law_turn", "_law_tag", "_law_words", "_law_deed_here", "_law_way", "_law_timer"] (defScope (top 18)) := ⟨rfl, rfl⟩
  exact (@x4 _ _ _ _ _ _ (C.two 5 6 rfl (by decide +kernel) (by decide +kernel) (by decide +kernel) (by decide +kernel) (@okAv_n _ _ _ _ _ (@v8 _ _ _ _ x5) (@okAv_d _ _ _ _ _ w4 okAv_nil (@sE _ _ _ rfl)) (@sE _ _ _ rfl)) rfl rfl) (@x4 _ _ _ _ _ _ (@okS_for _ _ _ _ _ _ _ _ _ PassesOwn.never rfl (@okI_range1 _ _ _ _ _ _ (@Sc.gl _ _ _ _ C (by decide +kernel)) T.z_range (@v7 _ _ _ _ _ _ _ _ _ opS_add (@v9 _ _ _ y5) (@v9 _ _ _ (@q7 _ _ _ _ _ _ _ _ _ _ _ _ (@Sc.df _ _ _ _ C _ _ _ (by decide +kernel) T.q_law_take.m T.q_law_take.F.kp T.q_law_take.b (by decide +kernel)) g.law_take hr (@sN _ _ _ _ rfl) rfl (@okAO_cons _ _ _ _ _ (@Sc.o _ _ _ _ _ C 0 (by decide +kernel)) (@okAO_cons _ _ _ _ _ (@Sc.o _ _ _ _ _ C 4 (by decide +kernel)) okAO_nil (@sE _ _ _ rfl)) (@sE _ _ _ rfl)) rfl))) (@s1 _ _ rfl)) (@Sc.g _ _ _ _ _ C 7 (by decide +kernel)) (by decide +kernel) (@x4 _ _ _ _ _ _ (C.two 8 9 rfl (by decide +kernel) (by decide +kernel) (by decide +kernel) (by decide +kernel) (@okAv_d _ _ _ _ _ (@Sc.pop _ _ _ _ _ _ _ _ _ C 2 (by decide +kernel) y5 (@sE _ _ _ rfl) rfl) (@okAv_n _ _ _ _ _ (@v8 _ _ _ _ x5) okAv_nil (@sE _ _ _ rfl)) (@sE _ _ _ rfl)) rfl rfl) (@x4 _ _ _ _ _ _ (@Sc.set _ _ _ _ _ _ _ _ _ C 10 (by decide +kernel) (by decide +kernel) (@q7 _ _ _ _ _ _ _ _ _ _ _ _ (@Sc.df _ _ _ _ C _ _ _ (by decide +kernel) T.q_law_deed.m T.q_law_deed.F.kp T.q_law_deed.b (by decide +kernel)) g.law_deed hr (@sN _ _ _ _ rfl) rfl (@okAO_cons _ _ _ _ _ (@Sc.o _ _ _ _ _ C 0 (by decide +kernel)) (@okAO_cons _ _ _ _ _ (@Sc.o _ _ _ _ _ C 1 (by decide +kernel)) (@okAO_cons _ _ _ _ _ (@Sc.o _ _ _ _ _ C 3 (by decide +kernel)) okAO_nil (@sE _ _ _ rfl)) (@sE _ _ _ rfl)) (@sE _ _ _ rfl)) rfl) rfl) (@x4 _ _ _ _ _ _ (@w5 _ _ _ _ _ (@Sc.app _ _ _ _ _ _ _ _ _ C 3 (by decide +kernel) (@Sc.v _ _ _ _ _ C 8 (by decide +kernel)) (@sE _ _ _ rfl) rfl) rfl) (@x4 _ _ _ _ _ _ (@q9 _ _ _ _ _ _ _ _ _ (@OkW.t _ _ _ (@okW_and _ _ _ _ _ _ _ (@v5 _ _ _ (@Sc.o _ _ _ _ _ C 6 (by decide +kernel)) (fun _ => rfl)) (@okW_and1 _ _ _ _ (@j5 _ _ _ _ _ _ _ _ _ (@opS_eq _ (Room.un64 hr)) (@v9 _ _ _ (@q7 _ _ _ _ _ _ _ _ _ _ _ _ (@Sc.df _ _ _ _ C _ _ _ (by decide +kernel) T.q_law_take.m T.q_law_take.F.kp T.q_law_take.b (by decide +kernel)) g.law_take hr (@sN _ _ _ _ rfl) rfl (@okAO_cons _ _ _ _ _ (@Sc.o _ _ _ _ _ C 0 (by decide +kernel)) (@okAO_cons _ _ _ _ _ (@v9 _ _ _ y5) okAO_nil (@sE _ _ _ rfl)) (@sE _ _ _ rfl)) rfl)) (@v9 _ _ _ y5) (nomark _))))) (@x4 _ _ _ _ _ _ (@w5 _ _ _ _ _ (@Sc.app _ _ _ _ _ _ _ _ _ C 9 (by decide +kernel) (@x6 _ _ _ _ (by decide +kernel)) (@sE _ _ _ rfl) rfl) rfl) x9) x9) (@x4 _ _ _ _ _ _ (@q9 _ _ _ _ _ _ _ _ _ (@OkW.t _ _ _ (@okW_and _ _ _ _ _ _ _ (@j5 _ _ _ _ _ _ _ _ _ (@opS_in _ (Room.un65 hr)) (@v9 _ _ _ (@j3 _ _ _ _ _ _ (@Sc.o _ _ _ _ _ C 10 (by decide +kernel)) (@v9 _ _ _ y5) (fun _ _ => rfl))) (@v9 _ _ _ (@x8 _ _ _ _ _ (@x3 _ _ _ _ _ (@x6 _ _ _ _ (by decide +kernel)) (@x3 _ _ _ _ _ (@x6 _ _ _ _ (by decide +kernel)) x5 (@sE _ _ _ rfl)) (@sE _ _ _ rfl)))) (by rfl)) (@okW_and1 _ _ _ _ (@j5 _ _ _ _ _ _ _ _ _ (@opS_eq _ (Room.un64 hr)) (@v9 _ _ _ (@q7 _ _ _ _ _ _ _ _ _ _ _ _ (@Sc.df _ _ _ _ C _ _ _ (by decide +kernel) T.q_law_take.m T.q_law_take.F.kp T.q_law_take.b (by decide +kernel)) g.law_take hr (@sN _ _ _ _ rfl) rfl (@okAO_cons _ _ _ _ _ (@Sc.o _ _ _ _ _ C 0 (by decide +kernel)) (@okAO_cons _ _ _ _ _ (@v9 _ _ _ y5) okAO_nil (@sE _ _ _ rfl)) (@sE _ _ _ rfl)) rfl)) (@v9 _ _ _ y5) (nomark _))))) (@x4 _ _ _ _ _ _ (@w5 _ _ _ _ _ (@Sc.app _ _ _ _ _ _ _ _ _ C 9 (by decide +kernel) (@x6 _ _ _ _ (by decide +kernel)) (@sE _ _ _ rfl) rfl) rfl) x9) x9) (@x4 _ _ _ _ _ _ (@q9 _ _ _ _ _ _ _ _ _ (@OkW.t _ _ _ (@okW_and _ _ _ _ _ _ _ (@j5 _ _ _ _ _ _ _ _ _ (@opS_in _ (Room.un65 hr)) (@Sc.o _ _ _ _ _ C 10 (by decide +kernel)) (@v9 _ _ _ (@x8 _ _ _ _ _ (@x3 _ _ _ _ _ (@x8 _ _ _ _ _ (@x3 _ _ _ _ _ (@x6 _ _ _ _ (by decide +kernel)) x5 (@sE _ _ _ rfl))) (@x3 _ _ _ _ _ (@x8 _ _ _ _ _ (@x3 _ _ _ _ _ (@x6 _ _ _ _ (by decide +kernel)) (@x3 _ _ _ _ _ w4 x5 (@sE _ _ _ rfl)) (@sE _ _ _ rfl))) x5 (@sE _ _ _ rfl)) (@sE _ _ _ rfl)))) (by rfl)) (@okW_and1 _ _ _ _ (@j5 _ _ _ _ _ _ _ _ _ (@opS_eq _ (Room.un64 hr)) (@v9 _ _ _ (@q7 _ _ _ _ _ _ _ _ _ _ _ _ (@Sc.df _ _ _ _ C _ _ _ (by decide +kernel) T.q_law_take.m T.q_law_take.F.kp T.q_law_take.b (by decide +kernel)) g.law_take hr (@sN _ _ _ _ rfl) rfl (@okAO_cons _ _ _ _ _ (@Sc.o _ _ _ _ _ C 0 (by decide +kernel)) (@okAO_cons _ _ _ _ _ (@v9 _ _ _ y5) okAO_nil (@sE _ _ _ rfl)) (@sE _ _ _ rfl)) rfl)) (@v9 _ _ _ y5) (nomark _))))) (@x4 _ _ _ _ _ _ (@w5 _ _ _ _ _ (@Sc.app _ _ _ _ _ _ _ _ _ C 9 (by decide +kernel) (@x6 _ _ _ _ (by decide +kernel)) (@sE _ _ _ rfl) rfl) rfl) x9) x9) (@x4 _ _ _ _ _ _ (@Sc.set _ _ _ _ _ _ _ _ _ C 11 (by decide +kernel) (by decide +kernel) (@q7 _ _ _ _ _ _ _ _ _ _ _ _ (@Sc.df _ _ _ _ C _ _ _ (by decide +kernel) T.q_law_take.m T.q_law_take.F.kp T.q_law_take.b (by decide +kernel)) g.law_take hr (@sN _ _ _ _ rfl) rfl (@okAO_cons _ _ _ _ _ (@Sc.o _ _ _ _ _ C 0 (by decide +kernel)) (@okAO_cons _ _ _ _ _ (@v9 _ _ _ y5) okAO_nil (@sE _ _ _ rfl)) (@sE _ _ _ rfl)) rfl) rfl) (@x4 _ _ _ _ _ _ (@q9 _ _ _ _ _ _ _ _ _ (@j5 _ _ _ _ _ _ _ _ _ opS_lt (@Sc.o _ _ _ _ _ C 11 (by decide +kernel)) (@v9 _ _ _ y5) (nomark _)) (@x4 _ _ _ _ _ _ (@w5 _ _ _ _ _ (@Sc.app _ _ _ _ _ _ _ _ _ C 9 (by decide +kernel) (@okE_if _ _ _ _ _ _ _ _ (@j5 _ _ _ _ _ _ _ _ _ (@opS_eq _ (Room.un64 hr)) (@Sc.o _ _ _ _ _ C 11 (by decide +kernel)) (@v9 _ _ _ y5) (nomark _)) (@x6 _ _ _ _ (by decide +kernel)) (@x6 _ _ _ _ (by decide +kernel))) (@sE _ _ _ rfl) rfl) rfl) x9) x9) (@x4 _ _ _ _ _ _ (@w5 _ _ _ _ _ (@Sc.app _ _ _ _ _ _ _ _ _ C 5 (by decide +kernel) (@x8 _ _ _ _ _ (@x3 _ _ _ _ _ (@Sc.v _ _ _ _ _ C 8 (by decide +kernel)) (@x3 _ _ _ _ _ (@Sc.v _ _ _ _ _ C 10 (by decide +kernel)) (@x3 _ _ _ _ _ (@okE_callTy _ _ _ _ _ _ _ _ _ _ callS_tuple (@Sc.gl _ _ _ _ C (by decide +kernel)) T.z_tuple (by decide +kernel) (@okAO_cons _ _ _ _ _ (@v9 _ _ _ (@OkN.dat _ _ _ (@okN_sort _ _ _ _ _ (@Sc.gl _ _ _ _ C (by decide +kernel)) T.z_sorted (@Sc.o _ _ _ _ _ C 9 (by decide +kernel)) (@sN _ _ _ _ rfl)))) okAO_nil (@sE _ _ _ rfl)) (by decide +kernel) (by decide +kernel) (@sN _ _ _ _ rfl)) x5 (@sE _ _ _ rfl)) (@sE _ _ _ rfl)) (@sE _ _ _ rfl))) (@sE _ _ _ rfl) rfl) rfl) (@x4 _ _ _ _ _ _ (@Sc.set _ _ _ _ _ _ _ _ _ C 6 (by decide +kernel) (by decide +kernel) (@okE_cmp _ _ _ _ _ _ _ _ _ opS_gt (@Sc.o _ _ _ _ _ C 11 (by decide +kernel)) (@v9 _ _ _ y5) (nomark _)) rfl) (@x4 _ _ _ _ _ _ (@q9 _ _ _ _ _ _ _ _ _ (@OkW.t _ _ _ (@okW_and _ _ _ _ _ _ _ (@j5 _ _ _ _ _ _ _ _ _ opS_lt (@Sc.o _ _ _ _ _ C 11 (by decide +kernel)) (@v9 _ _ _ y5) (nomark _)) (@okW_and1 _ _ _ _ (@j5 _ _ _ _ _ _ _ _ _ (@opS_eq _ (Room.un64 hr)) (@v9 _ _ _ (@q7 _ _ _ _ _ _ _ _ _ _ _ _ (@Sc.df _ _ _ _ C _ _ _ (by decide +kernel) T.q_law_take.m T.q_law_take.F.kp T.q_law_take.b (by decide +kernel)) g.law_take hr (@sN _ _ _ _ rfl) rfl (@okAO_cons _ _ _ _ _ (@Sc.o _ _ _ _ _ C 0 (by decide +kernel)) (@okAO_cons _ _ _ _ _ (@v9 _ _ _ y5) okAO_nil (@sE _ _ _ rfl)) (@sE _ _ _ rfl)) rfl)) (@v9 _ _ _ y5) (nomark _))))) (@x4 _ _ _ _ _ _ (@Sc.set _ _ _ _ _ _ _ _ _ C 12 (by decide +kernel) (by decide +kernel) (@Sc.pop _ _ _ _ _ _ _ _ _ C 2 (by decide +kernel) y5 (@sE _ _ _ rfl) rfl) rfl) (@x4 _ _ _ _ _ _ (@w5 _ _ _ _ _ (@Sc.app _ _ _ _ _ _ _ _ _ C 3 (by decide +kernel) (@Sc.v _ _ _ _ _ C 12 (by decide +kernel)) (@sE _ _ _ rfl) rfl) rfl) (@x4 _ _ _ _ _ _ (@w5 _ _ _ _ _ (@Sc.app _ _ _ _ _ _ _ _ _ C 5 (by decide +kernel) (@x8 _ _ _ _ _ (@x3 _ _ _ _ _ (@Sc.v _ _ _ _ _ C 12 (by decide +kernel)) (@x3 _ _ _ _ _ (@x8 _ _ _ _ _ (@x3 _ _ _ _ _ (@x6 _ _ _ _ (by decide +kernel)) (@x3 _ _ _ _ _ (@q7 _ _ _ _ _ _ _ _ _ _ _ _ (@Sc.df _ _ _ _ C _ _ _ (by decide +kernel) T.q_law_take.m T.q_law_take.F.kp T.q_law_take.b (by decide +kernel)) g.law_take hr (@sN _ _ _ _ rfl) rfl (@okAO_cons _ _ _ _ _ (@Sc.o _ _ _ _ _ C 0 (by decide +kernel)) (@okAO_cons _ _ _ _ _ (@v9 _ _ _ y5) okAO_nil (@sE _ _ _ rfl)) (@sE _ _ _ rfl)) rfl) x5 (@sE _ _ _ rfl)) (@sE _ _ _ rfl))) (@x3 _ _ _ _ _ (@x8 _ _ _ _ _ x5) x5 (@sE _ _ _ rfl)) (@sE _ _ _ rfl)) (@sE _ _ _ rfl))) (@sE _ _ _ rfl) rfl) rfl) x9))) x9) x9))))))))))) (fun _ => rfl)) (@x4 _ _ _ _ _ _ (@y8 _ _ _ _ _ (@okR_e _ _ _ _ (@q7 _ _ _ _ _ _ _ _ _ _ _ _ (@Sc.df _ _ _ _ C _ _ _ (by decide +kernel) T.q_law_ended.m T.q_law_ended.F.kp T.q_law_ended.b (by decide +kernel)) g.law_ended hr (@sN _ _ _ _ rfl) rfl (@okAO_cons _ _ _ _ _ (@Sc.o _ _ _ _ _ C 5 (by decide +kernel)) okAO_nil (@sE _ _ _ rfl)) rfl))) x9)))
theorem sc_law_mixed : FnScope ["_law_box_here", "_law_matter", "_law_some", "_law_bit"] ["_law_box_here", "_law_matter"] (defScope (top 19)) := ⟨rfl, rfl, rfl, by decide +kernel, rfl, by decide +kernel, by decide +kernel⟩
theorem ok_law_mixed (g : Good P w K mg base Z T k S) : FnG P w K mg base (k + 1) T.q_law_mixed.f T.q_law_mixed.d ["_law_box_here", "_law_matter"] (runF 4 io_law_mixed (b_law_mixed S.law_take S.law_mixed)) := fnG_of (N := ["_law_box_here", "_law_matter", "_law_some", "_law_bit"]) T.q_law_mixed.F sc_law_mixed fun cdv A outer s H hr => by
  have C : Sc (v3 P w K mg base ["_law_box_here", "_law_matter", "_law_some", "_law_bit"] "_law_mixed" (top 19) T.q_law_mixed.f cdv A outer s H) ["_law_box_here", "_law_matter", "_law_some", "_law_bit"] (defScope (top 19)) := ⟨rfl, rfl⟩
  exact (@x4 _ _ _ _ _ _ (@q9 _ _ _ _ _ _ _ _ _ (@okT_not _ _ _ _ (@v5 _ _ _ (@v9 _ _ _ (@okE_isi2 _ _ _ _ _ _ _ _ _ _ _ _ _ (@Sc.gl _ _ _ _ C (by decide +kernel)) T.z_isinstance (@Sc.o _ _ _ _ _ C 1 (by decide +kernel)) (C.ty (t := "list") (by decide +kernel) T.z_list (by decide +kernel) (by decide +kernel) (by decide +kernel)) (C.ty (t := "tuple") (by decide +kernel) T.z_tuple (by decide +kernel) (by decide +kernel) (by decide +kernel)) (@sN _ _ _ _ rfl))) (fun _ => rfl))) (@x4 _ _ _ _ _ _ (@y8 _ _ _ _ _ (@Sc.r _ _ _ _ _ _ C 1 (by decide +kernel))) x9) x9) (@x4 _ _ _ _ _ _ (C.setLc 2 [ ("_law_bit",3) ] (by decide +kernel) rfl (by decide +kernel) (by decide +kernel) (by decide +kernel) rfl (fun _ => rfl) (@okI_data _ _ _ _ (@Sc.o _ _ _ _ _ C 1 (by decide +kernel))) (fun s0 H0 C0 cl fp => (@Sc.g _ _ _ _ _ C.blk 3 (by decide +kernel))) (fun s0 H0 C0 cl fp => okTs_nil) (fun s0 H0 C0 cl fp => (@q7 _ _ _ _ _ _ _ _ _ _ _ _ (@Sc.df _ _ _ _ C.blk _ _ _ (by decide +kernel) T.q_law_mixed.m T.q_law_mixed.F.kp T.q_law_mixed.b (by decide +kernel)) g.law_mixed hr (@sN _ _ _ _ rfl) rfl (@okAO_cons _ _ _ _ _ (@Sc.o _ _ _ _ _ C.blk 0 (by decide +kernel)) (@okAO_cons _ _ _ _ _ (@Sc.o _ _ _ _ _ C.blk 3 (by decide +kernel)) okAO_nil (@sE _ _ _ rfl)) (@sE _ _ _ rfl)) rfl))) (@x4 _ _ _ _ _ _ (@y8 _ _ _ _ _ (@okR_if _ _ _ _ _ _ _ _ _ (@j5 _ _ _ _ _ _ _ _ _ (@opS_eq _ (Room.un64 hr)) (@v9 _ _ _ (@q7 _ _ _ _ _ _ _ _ _ _ _ _ (@Sc.df _ _ _ _ C _ _ _ (by decide +kernel) T.q_law_take.m T.q_law_take.F.kp T.q_law_take.b (by decide +kernel)) g.law_take hr (@sN _ _ _ _ rfl) rfl (@okAO_cons _ _ _ _ _ (@Sc.o _ _ _ _ _ C 0 (by decide +kernel)) (@okAO_cons _ _ _ _ _ (@v9 _ _ _ y5) okAO_nil (@sE _ _ _ rfl)) (@sE _ _ _ rfl)) rfl)) (@v9 _ _ _ y5) (nomark _)) (@Sc.r _ _ _ _ _ _ C 2 (by decide +kernel)) (@okR_e _ _ _ _ (@okE_callTy _ _ _ _ _ _ _ _ _ _ callS_tuple (@Sc.gl _ _ _ _ C (by decide +kernel)) T.z_tuple (by decide +kernel) (@okAO_cons _ _ _ _ _ (@Sc.o _ _ _ _ _ C 2 (by decide +kernel)) okAO_nil (@sE _ _ _ rfl)) (by decide +kernel) (by decide +kernel) (@sN _ _ _ _ rfl))))) x9)))
theorem sc_law_lists : FnScope ["_law_matter", "_law_bit"] ["_law_matter"] (defScope (top 20)) := ⟨rfl, rfl, rfl, by decide +kernel, rfl, by decide +kernel, by decide +kernel⟩
theorem ok_law_lists (g : Good P w K mg base Z T k S) : FnG P w K mg base (k + 1) T.q_law_lists.f T.q_law_lists.d ["_law_matter"] (runF 2 io_law_lists (b_law_lists S.law_lists)) := fnG_of (N := ["_law_matter", "_law_bit"]) T.q_law_lists.F sc_law_lists fun cdv A outer s H hr => by
  have C : Sc (v3 P w K mg base ["_law_matter", "_law_bit"] "_law_lists" (top 20) T.q_law_lists.f cdv A outer s H) ["_law_matter", "_law_bit"] (defScope (top 20)) := ⟨rfl, rfl⟩
  exact (@x4 _ _ _ _ _ _ (@y8 _ _ _ _ _ (@okR_if _ _ _ _ _ _ _ _ _ (@v5 _ _ _ (@v9 _ _ _ (@okE_isi2 _ _ _ _ _ _ _ _ _ _ _ _ _ (@Sc.gl _ _ _ _ C (by decide +kernel)) T.z_isinstance (@Sc.o _ _ _ _ _ C 0 (by decide +kernel)) (C.ty (t := "list") (by decide +kernel) T.z_list (by decide +kernel) (by decide +kernel) (by decide +kernel)) (C.ty (t := "tuple") (by decide +kernel) T.z_tuple (by decide +kernel) (by decide +kernel) (by decide +kernel)) (@sN _ _ _ _ rfl))) (fun _ => rfl)) (@okR_e _ _ _ _ (@OkN.dat _ _ _ (C.lc [ ("_law_bit",1) ] rfl (by decide +kernel) (by decide +kernel) rfl (fun _ => rfl) (@okI_data _ _ _ _ (@Sc.o _ _ _ _ _ C 0 (by decide +kernel))) (fun s0 H0 C0 cl fp => (@Sc.g _ _ _ _ _ C.blk 1 (by decide +kernel))) (fun s0 H0 C0 cl fp => okTs_nil) (fun s0 H0 C0 cl fp => (@q7 _ _ _ _ _ _ _ _ _ _ _ _ (@Sc.df _ _ _ _ C.blk _ _ _ (by decide +kernel) T.q_law_lists.m T.q_law_lists.F.kp T.q_law_lists.b (by decide +kernel)) g.law_lists hr (@sN _ _ _ _ rfl) rfl (@okAO_cons _ _ _ _ _ (@Sc.o _ _ _ _ _ C.blk 1 (by decide +kernel)) okAO_nil (@sE _ _ _ rfl)) rfl))))) (@Sc.r _ _ _ _ _ _ C 0 (by decide +kernel)))) x9)
theorem sc_law_same : FnScope ["_law_found", "_law_due", "_law_alike", "_law_mine", "_law_its"] ["_law_found", "_law_due"] (defScope (top 21)) := ⟨rfl, rfl, rfl, by decide +kernel, rfl, by decide +kernel, by decide +kernel⟩
theorem ok_law_same (g : Good P w K mg base Z T k S) : FnG P w K mg base (k + 1) T.q_law_same.f T.q_law_same.d ["_law_found", "_law_due"] (runF 5 io_law_same (b_law_same S.law_same)) := fnG_of (N := ["_law_found", "_law_due", "_law_alike", "_law_mine", "_law_its"]) T.q_law_same.F sc_law_same fun cdv A outer s H hr => by
  have C : Sc (v3 P w K mg base ["_law_found", "_law_due", "_law_alike", "_law_mine", "_law_its"] "_law_same" (top 21) T.q_law_same.f cdv A outer s H) ["_law_found", "_law_due", "_law_alike", "_law_mine", "_law_its"] (defScope (top 21)) := ⟨rfl, rfl⟩
  exact (@x4 _ _ _ _ _ _ (@q9 _ _ _ _ _ _ _ _ _ (@v5 _ _ _ (@v9 _ _ _ (@okE_isi2 _ _ _ _ _ _ _ _ _ _ _ _ _ (@Sc.gl _ _ _ _ C (by decide +kernel)) T.z_isinstance (@Sc.o _ _ _ _ _ C 1 (by decide +kernel)) (C.ty (t := "list") (by decide +kernel) T.z_list (by decide +kernel) (by decide +kernel) (by decide +kernel)) (C.ty (t := "tuple") (by decide +kernel) T.z_tuple (by decide +kernel) (by decide +kernel) (by decide +kernel)) (@sN _ _ _ _ rfl))) (fun _ => rfl)) (@x4 _ _ _ _ _ _ (@q9 _ _ _ _ _ _ _ _ _ (@OkW.t _ _ _ (@okW_or _ _ _ _ _ _ _ (@j5 _ _ _ _ _ _ _ _ _ (@opS_ne _ (Room.un64 hr)) (@v9 _ _ _ (@okE_isi1 _ _ _ _ _ _ _ _ (@Sc.gl _ _ _ _ C (by decide +kernel)) T.z_isinstance (@Sc.o _ _ _ _ _ C 0 (by decide +kernel)) (C.ty (t := "list") (by decide +kernel) T.z_list (by decide +kernel) (by decide +kernel) (by decide +kernel)) (@sN _ _ _ _ rfl))) (@v9 _ _ _ (@okE_isi1 _ _ _ _ _ _ _ _ (@Sc.gl _ _ _ _ C (by decide +kernel)) T.z_isinstance (@Sc.o _ _ _ _ _ C 1 (by decide +kernel)) (C.ty (t := "list") (by decide +kernel) T.z_list (by decide +kernel) (by decide +kernel) (by decide +kernel)) (@sN _ _ _ _ rfl))) (nomark _)) (@okW_or1 _ _ _ _ (@j5 _ _ _ _ _ _ _ _ _ (@opS_ne _ (Room.un64 hr)) (@v9 _ _ _ (@okE_isi1 _ _ _ _ _ _ _ _ (@Sc.gl _ _ _ _ C (by decide +kernel)) T.z_isinstance (@Sc.o _ _ _ _ _ C 0 (by decide +kernel)) (C.ty (t := "tuple") (by decide +kernel) T.z_tuple (by decide +kernel) (by decide +kernel) (by decide +kernel)) (@sN _ _ _ _ rfl))) (@v9 _ _ _ (@okE_isi1 _ _ _ _ _ _ _ _ (@Sc.gl _ _ _ _ C (by decide +kernel)) T.z_isinstance (@Sc.o _ _ _ _ _ C 1 (by decide +kernel)) (C.ty (t := "tuple") (by decide +kernel) T.z_tuple (by decide +kernel) (by decide +kernel) (by decide +kernel)) (@sN _ _ _ _ rfl))) (nomark _))))) (@x4 _ _ _ _ _ _ (@y8 _ _ _ _ _ (@okR_e _ _ _ _ w4)) x9) x9) (@x4 _ _ _ _ _ _ (@y8 _ _ _ _ _ (@okR_e _ _ _ _ (@okE_and _ _ _ _ _ _ _ (@okE_cmp _ _ _ _ _ _ _ _ _ (@opS_eq _ (Room.un64 hr)) (@v9 _ _ _ (@okE_callB _ _ _ _ _ _ _ _ _ _ callS_len (@Sc.gl _ _ _ _ C (by decide +kernel)) T.z_len (by decide +kernel) (@okAO_cons _ _ _ _ _ (@Sc.o _ _ _ _ _ C 0 (by decide +kernel)) okAO_nil (@sE _ _ _ rfl)) (by decide +kernel) (by decide +kernel) (@sN _ _ _ _ rfl))) (@v9 _ _ _ (@okE_callB _ _ _ _ _ _ _ _ _ _ callS_len (@Sc.gl _ _ _ _ C (by decide +kernel)) T.z_len (by decide +kernel) (@okAO_cons _ _ _ _ _ (@Sc.o _ _ _ _ _ C 1 (by decide +kernel)) okAO_nil (@sE _ _ _ rfl)) (by decide +kernel) (by decide +kernel) (@sN _ _ _ _ rfl))) (nomark _)) (@okE_one _ _ _ _ _ (@okE_callB _ _ _ _ _ _ _ _ _ _ (@callS_all _ rfl) (@Sc.gl _ _ _ _ C (by decide +kernel)) T.z_all (by decide +kernel) (@okAO_cons _ _ _ _ _ (@v9 _ _ _ (@OkN.dat _ _ _ (C.lc [ ("_law_mine",3),("_law_its",4) ] rfl (by decide +kernel) (by decide +kernel) rfl (fun _ => rfl) (@okI_zip _ _ _ _ _ _ _ _ _ _ (@Sc.gl _ _ _ _ C (by decide +kernel)) T.z_zip (@Sc.o _ _ _ _ _ C 0 (by decide +kernel)) (@Sc.o _ _ _ _ _ C 1 (by decide +kernel)) (@sN _ _ _ _ rfl) (@sN _ _ _ _ rfl)) (fun s0 H0 C0 cl fp => (@okG_tup _ _ _ _ _ rfl (@okGs_cons _ _ _ _ _ (@Sc.g _ _ _ _ _ C.blk 3 (by decide +kernel)) (@okGs_cons _ _ _ _ _ (@Sc.g _ _ _ _ _ C.blk 4 (by decide +kernel)) okGs_nil rfl) rfl) rfl rfl)) (fun s0 H0 C0 cl fp => okTs_nil) (fun s0 H0 C0 cl fp => (@q7 _ _ _ _ _ _ _ _ _ _ _ _ (@Sc.df _ _ _ _ C.blk _ _ _ (by decide +kernel) T.q_law_same.m T.q_law_same.F.kp T.q_law_same.b (by decide +kernel)) g.law_same hr (@sN _ _ _ _ rfl) rfl (@okAO_cons _ _ _ _ _ (@Sc.o _ _ _ _ _ C.blk 3 (by decide +kernel)) (@okAO_cons _ _ _ _ _ (@Sc.o _ _ _ _ _ C.blk 4 (by decide +kernel)) okAO_nil (@sE _ _ _ rfl)) (@sE _ _ _ rfl)) rfl))))) okAO_nil (@sE _ _ _ rfl)) (by decide +kernel) (by decide +kernel) (@sN _ _ _ _ rfl)))))) x9)) x9) (@x4 _ _ _ _ _ _ (@q9 _ _ _ _ _ _ _ _ _ (@OkW.t _ _ _ (@okW_or _ _ _ _ _ _ _ (@j5 _ _ _ _ _ _ _ _ _ opS_is (@Sc.o _ _ _ _ _ C 1 (by decide +kernel)) (@v9 _ _ _ v6) (nomark _)) (@okW_or1 _ _ _ _ (@v5 _ _ _ (@v9 _ _ _ (@okE_isi2 _ _ _ _ _ _ _ _ _ _ _ _ _ (@Sc.gl _ _ _ _ C (by decide +kernel)) T.z_isinstance (@Sc.o _ _ _ _ _ C 1 (by decide +kernel)) (C.ty (t := "bool") (by decide +kernel) T.z_bool (by decide +kernel) (by decide +kernel) (by decide +kernel)) (C.ty (t := "str") (by decide +kernel) T.z_str (by decide +kernel) (by decide +kernel) (by decide +kernel)) (@sN _ _ _ _ rfl))) (fun _ => rfl))))) (@x4 _ _ _ _ _ _ (@Sc.set _ _ _ _ _ _ _ _ _ C 2 (by decide +kernel) (by decide +kernel) (@okE_and _ _ _ _ _ _ _ (@okE_cmp _ _ _ _ _ _ _ _ _ (@opS_eq _ (Room.un64 hr)) (@v9 _ _ _ (@okE_isi1 _ _ _ _ _ _ _ _ (@Sc.gl _ _ _ _ C (by decide +kernel)) T.z_isinstance (@Sc.o _ _ _ _ _ C 0 (by decide +kernel)) (C.ty (t := "bool") (by decide +kernel) T.z_bool (by decide +kernel) (by decide +kernel) (by decide +kernel)) (@sN _ _ _ _ rfl))) (@v9 _ _ _ (@okE_isi1 _ _ _ _ _ _ _ _ (@Sc.gl _ _ _ _ C (by decide +kernel)) T.z_isinstance (@Sc.o _ _ _ _ _ C 1 (by decide +kernel)) (C.ty (t := "bool") (by decide +kernel) T.z_bool (by decide +kernel) (by decide +kernel) (by decide +kernel)) (@sN _ _ _ _ rfl))) (nomark _)) (@okE_one _ _ _ _ _ (@okE_cmp _ _ _ _ _ _ _ _ _ (@opS_eq _ (Room.un64 hr)) (@v9 _ _ _ (@okE_cmp _ _ _ _ _ _ _ _ _ opS_is (@Sc.o _ _ _ _ _ C 0 (by decide +kernel)) (@v9 _ _ _ v6) (nomark _))) (@v9 _ _ _ (@okE_cmp _ _ _ _ _ _ _ _ _ opS_is (@Sc.o _ _ _ _ _ C 1 (by decide +kernel)) (@v9 _ _ _ v6) (nomark _))) (nomark _)))) rfl) (@x4 _ _ _ _ _ _ (@y8 _ _ _ _ _ (@okR_e _ _ _ _ (@okE_and _ _ _ _ _ _ _ (@okE_cmp _ _ _ _ _ _ _ _ _ (@opS_eq _ (Room.un64 hr)) (@Sc.o _ _ _ _ _ C 0 (by decide +kernel)) (@Sc.o _ _ _ _ _ C 1 (by decide +kernel)) (nomark _)) (@okE_one _ _ _ _ _ (@Sc.v _ _ _ _ _ C 2 (by decide +kernel)))))) x9)) x9) (@x4 _ _ _ _ _ _ (@y8 _ _ _ _ _ (@okR_e _ _ _ _ (@okE_and _ _ _ _ _ _ _ (@okE_isi1 _ _ _ _ _ _ _ _ (@Sc.gl _ _ _ _ C (by decide +kernel)) T.z_isinstance (@Sc.o _ _ _ _ _ C 0 (by decide +kernel)) (C.ty (t := "int") (by decide +kernel) T.z_int (by decide +kernel) (by decide +kernel) (by decide +kernel)) (@sN _ _ _ _ rfl)) (@okE_and _ _ _ _ _ _ _ (@okE_not _ _ _ _ (@okE_isi1 _ _ _ _ _ _ _ _ (@Sc.gl _ _ _ _ C (by decide +kernel)) T.z_isinstance (@Sc.o _ _ _ _ _ C 0 (by decide +kernel)) (C.ty (t := "bool") (by decide +kernel) T.z_bool (by decide +kernel) (by decide +kernel) (by decide +kernel)) (@sN _ _ _ _ rfl))) (@okE_one _ _ _ _ _ (@okE_cmp _ _ _ _ _ _ _ _ _ (@opS_eq _ (Room.un64 hr)) (@Sc.o _ _ _ _ _ C 0 (by decide +kernel)) (@Sc.o _ _ _ _ _ C 1 (by decide +kernel)) (nomark _))))))) x9)))
theorem sc_law_event : FnScope ["_law_box_here", "_law_setup_so", "_law_tags_so", "_law_gone", "_law_clock_so", "_law_way"] ["_law_box_here", "_law_setup_so", "_law_tags_so", "_law_gone", "_law_clock_so"] (defScope (top 22)) := ⟨rfl, rfl, rfl, by decide +kernel, rfl, by decide +kernel, by decide +kernel⟩
theorem ok_law_event (g : Good P w K mg base Z T k S) : FnG P w K mg base (k + 1) T.q_law_event.f T.q_law_event.d ["_law_box_here", "_law_setup_so", "_law_tags_so", "_law_gone", "_law_clock_so"] (runF 6 io_law_event (b_law_event S.law_take S.law_of S.law_letters S.law_lot)) := fnG_of (N := ["_law_box_here", "_law_setup_so", "_law_tags_so", "_law_gone", "_law_clock_so", "_law_way"]) T.q_law_event.F sc_law_event fun cdv A outer s H hr => by
  have C : Sc (v3 P w K mg base ["_law_box_here", "_law_setup_so", "_law_tags_so", "_law_gone", "_law_clock_so", "_law_way"] "_law_event" (top 22) T.q_law_event.f cdv A outer s H) ["_law_box_here", "_law_setup_so", "_law_tags_so", "_law_gone", "_law_clock_so", "_law_way"] (defScope (top 22)) := ⟨rfl, rfl⟩
  exact (@x4 _ _ _ _ _ _ (@Sc.set _ _ _ _ _ _ _ _ _ C 5 (by decide +kernel) (by decide +kernel) (@q7 _ _ _ _ _ _ _ _ _ _ _ _ (@Sc.df _ _ _ _ C _ _ _ (by decide +kernel) T.q_law_take.m T.q_law_take.F.kp T.q_law_take.b (by decide +kernel)) g.law_take hr (@sN _ _ _ _ rfl) rfl (@okAO_cons _ _ _ _ _ (@Sc.o _ _ _ _ _ C 0 (by decide +kernel)) (@okAO_cons _ _ _ _ _ (@v9 _ _ _ y5) okAO_nil (@sE _ _ _ rfl)) (@sE _ _ _ rfl)) rfl) rfl) (@x4 _ _ _ _ _ _ (@q9 _ _ _ _ _ _ _ _ _ (@OkW.t _ _ _ (@okW_and _ _ _ _ _ _ _ (@j5 _ _ _ _ _ _ _ _ _ opS_lt (@Sc.o _ _ _ _ _ C 5 (by decide +kernel)) (@v9 _ _ _ y5) (nomark _)) (@okW_and1 _ _ _ _ (@j5 _ _ _ _ _ _ _ _ _ opS_gt (@v9 _ _ _ (@okE_callB _ _ _ _ _ _ _ _ _ _ callS_len (@Sc.gl _ _ _ _ C (by decide +kernel)) T.z_len (by decide +kernel) (@okAO_cons _ _ _ _ _ (@Sc.o _ _ _ _ _ C 2 (by decide +kernel)) okAO_nil (@sE _ _ _ rfl)) (by decide +kernel) (by decide +kernel) (@sN _ _ _ _ rfl))) (@v9 _ _ _ y5) (nomark _))))) (@x4 _ _ _ _ _ _ (@y8 _ _ _ _ _ (@okR_e _ _ _ _ (@x8 _ _ _ _ _ (@x3 _ _ _ _ _ (@x6 _ _ _ _ (by decide +kernel)) (@x3 _ _ _ _ _ (@q7 _ _ _ _ _ _ _ _ _ _ _ _ (@Sc.df _ _ _ _ C _ _ _ (by decide +kernel) T.q_law_lot.m T.q_law_lot.F.kp T.q_law_lot.b (by decide +kernel)) g.law_lot hr (@sN _ _ _ _ rfl) rfl (@okAO_cons _ _ _ _ _ (@Sc.o _ _ _ _ _ C 0 (by decide +kernel)) (@okAO_cons _ _ _ _ _ (@Sc.o _ _ _ _ _ C 1 (by decide +kernel)) (@okAO_cons _ _ _ _ _ (@Sc.o _ _ _ _ _ C 2 (by decide +kernel)) (@okAO_cons _ _ _ _ _ (@Sc.o _ _ _ _ _ C 3 (by decide +kernel)) (@okAO_cons _ _ _ _ _ (@v9 _ _ _ y5) okAO_nil (@sE _ _ _ rfl)) (@sE _ _ _ rfl)) (@sE _ _ _ rfl)) (@sE _ _ _ rfl)) (@sE _ _ _ rfl)) rfl) x5 (@sE _ _ _ rfl)) (@sE _ _ _ rfl))))) x9) x9) (@x4 _ _ _ _ _ _ (@q9 _ _ _ _ _ _ _ _ _ (@j5 _ _ _ _ _ _ _ _ _ opS_lt (@Sc.o _ _ _ _ _ C 5 (by decide +kernel)) (@v9 _ _ _ y5) (nomark _)) (@x4 _ _ _ _ _ _ (@y8 _ _ _ _ _ (@okR_e _ _ _ _ (@x8 _ _ _ _ _ (@x3 _ _ _ _ _ (@x6 _ _ _ _ (by decide +kernel)) (@x3 _ _ _ _ _ (@q7 _ _ _ _ _ _ _ _ _ _ _ _ (@Sc.df _ _ _ _ C _ _ _ (by decide +kernel) T.q_law_of.m T.q_law_of.F.kp T.q_law_of.b (by decide +kernel)) g.law_of hr (@sN _ _ _ _ rfl) rfl (@okAO_cons _ _ _ _ _ (@Sc.o _ _ _ _ _ C 0 (by decide +kernel)) (@okAO_cons _ _ _ _ _ (@v9 _ _ _ (@j3 _ _ _ _ _ _ (@Sc.o _ _ _ _ _ C 1 (by decide +kernel)) (@v9 _ _ _ y5) (fun _ _ => rfl))) okAO_nil (@sE _ _ _ rfl)) (@sE _ _ _ rfl)) rfl) (@x3 _ _ _ _ _ (@q7 _ _ _ _ _ _ _ _ _ _ _ _ (@Sc.df _ _ _ _ C _ _ _ (by decide +kernel) T.q_law_letters.m T.q_law_letters.F.kp T.q_law_letters.b (by decide +kernel)) g.law_letters hr (@sN _ _ _ _ rfl) rfl (@okAO_cons _ _ _ _ _ (@Sc.o _ _ _ _ _ C 0 (by decide +kernel)) (@okAO_cons _ _ _ _ _ (@v9 _ _ _ y5) okAO_nil (@sE _ _ _ rfl)) (@sE _ _ _ rfl)) rfl) x5 (@sE _ _ _ rfl)) (@sE _ _ _ rfl)) (@sE _ _ _ rfl))))) x9) x9) (@x4 _ _ _ _ _ _ (@q9 _ _ _ _ _ _ _ _ _ (@j5 _ _ _ _ _ _ _ _ _ (@opS_eq _ (Room.un64 hr)) (@Sc.o _ _ _ _ _ C 5 (by decide +kernel)) (@v9 _ _ _ y5) (nomark _)) (@x4 _ _ _ _ _ _ (@y8 _ _ _ _ _ (@okR_e _ _ _ _ (@x8 _ _ _ _ _ (@x3 _ _ _ _ _ (@x6 _ _ _ _ (by decide +kernel)) (@x3 _ _ _ _ _ (@q7 _ _ _ _ _ _ _ _ _ _ _ _ (@Sc.df _ _ _ _ C _ _ _ (by decide +kernel) T.q_law_of.m T.q_law_of.F.kp T.q_law_of.b (by decide +kernel)) g.law_of hr (@sN _ _ _ _ rfl) rfl (@okAO_cons _ _ _ _ _ (@Sc.o _ _ _ _ _ C 0 (by decide +kernel)) (@okAO_cons _ _ _ _ _ (@v9 _ _ _ (@j3 _ _ _ _ _ _ (@Sc.o _ _ _ _ _ C 1 (by decide +kernel)) (@v9 _ _ _ y5) (fun _ _ => rfl))) okAO_nil (@sE _ _ _ rfl)) (@sE _ _ _ rfl)) rfl) (@x3 _ _ _ _ _ (@v7 _ _ _ _ _ _ _ _ _ opS_add (@v9 _ _ _ y5) (@v9 _ _ _ (@q7 _ _ _ _ _ _ _ _ _ _ _ _ (@Sc.df _ _ _ _ C _ _ _ (by decide +kernel) T.q_law_take.m T.q_law_take.F.kp T.q_law_take.b (by decide +kernel)) g.law_take hr (@sN _ _ _ _ rfl) rfl (@okAO_cons _ _ _ _ _ (@Sc.o _ _ _ _ _ C 0 (by decide +kernel)) (@okAO_cons _ _ _ _ _ (@v9 _ _ _ y5) okAO_nil (@sE _ _ _ rfl)) (@sE _ _ _ rfl)) rfl))) x5 (@sE _ _ _ rfl)) (@sE _ _ _ rfl)) (@sE _ _ _ rfl))))) x9) x9) (@x4 _ _ _ _ _ _ (@q9 _ _ _ _ _ _ _ _ _ (@j5 _ _ _ _ _ _ _ _ _ opS_lt (@Sc.o _ _ _ _ _ C 5 (by decide +kernel)) (@v9 _ _ _ y5) (nomark _)) (@x4 _ _ _ _ _ _ (@y8 _ _ _ _ _ (@okR_e _ _ _ _ (@x8 _ _ _ _ _ (@x3 _ _ _ _ _ (@x6 _ _ _ _ (by decide +kernel)) (@x3 _ _ _ _ _ (@v7 _ _ _ _ _ _ _ _ _ opS_add (@v9 _ _ _ y5) (@v9 _ _ _ (@q7 _ _ _ _ _ _ _ _ _ _ _ _ (@Sc.df _ _ _ _ C _ _ _ (by decide +kernel) T.q_law_take.m T.q_law_take.F.kp T.q_law_take.b (by decide +kernel)) g.law_take hr (@sN _ _ _ _ rfl) rfl (@okAO_cons _ _ _ _ _ (@Sc.o _ _ _ _ _ C 0 (by decide +kernel)) (@okAO_cons _ _ _ _ _ (@v9 _ _ _ y5) okAO_nil (@sE _ _ _ rfl)) (@sE _ _ _ rfl)) rfl))) x5 (@sE _ _ _ rfl)) (@sE _ _ _ rfl))))) x9) x9) (@x4 _ _ _ _ _ _ (@q9 _ _ _ _ _ _ _ _ _ (@j5 _ _ _ _ _ _ _ _ _ (@opS_eq _ (Room.un64 hr)) (@Sc.o _ _ _ _ _ C 5 (by decide +kernel)) (@v9 _ _ _ y5) (nomark _)) (@x4 _ _ _ _ _ _ (@Sc.put _ _ _ _ _ _ _ _ _ _ _ _ C 4 (by decide +kernel) y5 (@v7 _ _ _ _ _ _ _ _ _ opS_add (@v9 _ _ _ (@v7 _ _ _ _ _ _ _ _ _ opS_add (@v9 _ _ _ (@j3 _ _ _ _ _ _ (@Sc.o _ _ _ _ _ C 4 (by decide +kernel)) (@v9 _ _ _ y5) (fun _ _ => rfl))) (@v9 _ _ _ y5))) (@v9 _ _ _ (@q7 _ _ _ _ _ _ _ _ _ _ _ _ (@Sc.df _ _ _ _ C _ _ _ (by decide +kernel) T.q_law_take.m T.q_law_take.F.kp T.q_law_take.b (by decide +kernel)) g.law_take hr (@sN _ _ _ _ rfl) rfl (@okAO_cons _ _ _ _ _ (@Sc.o _ _ _ _ _ C 0 (by decide +kernel)) (@okAO_cons _ _ _ _ _ (@v9 _ _ _ y5) okAO_nil (@sE _ _ _ rfl)) (@sE _ _ _ rfl)) rfl))) (fun _ => rfl) rfl rfl rfl) (@x4 _ _ _ _ _ _ (@y8 _ _ _ _ _ (@okR_e _ _ _ _ (@x8 _ _ _ _ _ (@x3 _ _ _ _ _ (@x6 _ _ _ _ (by decide +kernel)) (@x3 _ _ _ _ _ (@j3 _ _ _ _ _ _ (@Sc.o _ _ _ _ _ C 4 (by decide +kernel)) (@v9 _ _ _ y5) (fun _ _ => rfl)) x5 (@sE _ _ _ rfl)) (@sE _ _ _ rfl))))) x9)) x9) (@x4 _ _ _ _ _ _ (@y8 _ _ _ _ _ (@okR_if _ _ _ _ _ _ _ _ _ (@j5 _ _ _ _ _ _ _ _ _ (@opS_eq _ (Room.un64 hr)) (@Sc.o _ _ _ _ _ C 5 (by decide +kernel)) (@v9 _ _ _ y5) (nomark _)) (@okR_e _ _ _ _ (@x8 _ _ _ _ _ (@x3 _ _ _ _ _ (@x6 _ _ _ _ (by decide +kernel)) (@x3 _ _ _ _ _ (@v7 _ _ _ _ _ _ _ _ _ opS_add (@v9 _ _ _ y5) (@v9 _ _ _ (@q7 _ _ _ _ _ _ _ _ _ _ _ _ (@Sc.df _ _ _ _ C _ _ _ (by decide +kernel) T.q_law_take.m T.q_law_take.F.kp T.q_law_take.b (by decide +kernel)) g.law_take hr (@sN _ _ _ _ rfl) rfl (@okAO_cons _ _ _ _ _ (@Sc.o _ _ _ _ _ C 0 (by decide +kernel)) (@okAO_cons _ _ _ _ _ (@v9 _ _ _ y5) okAO_nil (@sE _ _ _ rfl)) (@sE _ _ _ rfl)) rfl))) x5 (@sE _ _ _ rfl)) (@sE _ _ _ rfl)))) (@okR_e _ _ _ _ (@x8 _ _ _ _ _ (@x3 _ _ _ _ _ (@x6 _ _ _ _ (by decide +kernel)) x5 (@sE _ _ _ rfl)))))) x9)))))))
theorem sc_law_named_script : FnScope ["_law_box_here", "_law_setup_so", "_law_many_so", "_law_tags_so", "_law_gone", "_law_clock_so", "_law_found", "_law_turn"] ["_law_box_here", "_law_setup_so", "_law_many_so"] (defScope (top 23)) := ⟨rfl, rfl, rfl, by decide +kernel, rfl, by decide +kernel, by decide +kernel⟩
theorem ok_law_named_script (g : Good P w K mg base Z T k S) : FnG P w K mg base (k + 1) T.q_law_named_script.f T.q_law_named_script.d ["_law_box_here", "_law_setup_so", "_law_many_so"] (runF 8 io_law_named_script (b_law_named_script S.law_take S.law_names S.law_lot S.law_event)) := fnG_of (N := ["_law_box_here", "_law_setup_so", "_law_many_so", "_law_tags_so", "_law_gone", "_law_clock_so", "_law_found", "_law_turn"]) T.q_law_named_script.F sc_law_named_script fun cdv A outer s H hr => by
  have C : Sc (v3 P w K mg base ["_law_box_here", "_law_setup_so", "_law_many_so", "_law_tags_so", "_law_gone", "_law_clock_so", "_law_found", "_law_turn"] "_law_named_script" (top 23) T.q_law_named_script.f cdv A outer s H) ["_law_box_here", "_law_setup_so", "_law_many_so", "_law_tags_so", "_law_gone", "_law_clock_so", "_law_found", "_law_turn"] (defScope (top 23)) := ⟨rfl, rfl⟩
  exact (@x4 _ _ _ _ _ _ (C.three 3 4 5 rfl (by decide +kernel) (by decide +kernel) (by decide +kernel) (by decide +kernel) (by decide +kernel) (by decide +kernel) (by decide +kernel) (@okAv_n _ _ _ _ _ (@okN_fn _ _ _ _ _ _ _ _ _ _ _ _ (@Sc.df _ _ _ _ C _ _ _ (by decide +kernel) T.q_law_names.m T.q_law_names.F.kp T.q_law_names.b (by decide +kernel)) g.law_names hr (@sN _ _ _ _ rfl) rfl (@okAO_cons _ _ _ _ _ (@Sc.o _ _ _ _ _ C 0 (by decide +kernel)) (@okAO_cons _ _ _ _ _ (@v9 _ _ _ y5) okAO_nil (@sE _ _ _ rfl)) (@sE _ _ _ rfl)) rfl) (@okAv_n _ _ _ _ _ (@v8 _ _ _ _ x5) (@okAv_n _ _ _ _ _ (@v8 _ _ _ _ (@x3 _ _ _ _ _ y5 x5 (@sE _ _ _ rfl))) okAv_nil (@sE _ _ _ rfl)) (@sE _ _ _ rfl)) (@sE _ _ _ rfl)) rfl rfl) (@x4 _ _ _ _ _ _ (@Sc.own _ _ _ _ _ _ _ _ _ C 6 (by decide +kernel) (by decide +kernel) (@v8 _ _ _ _ (@x3 _ _ _ _ _ (@x8 _ _ _ _ _ (@x3 _ _ _ _ _ (@x6 _ _ _ _ (by decide +kernel)) (@x3 _ _ _ _ _ (@q7 _ _ _ _ _ _ _ _ _ _ _ _ (@Sc.df _ _ _ _ C _ _ _ (by decide +kernel) T.q_law_lot.m T.q_law_lot.F.kp T.q_law_lot.b (by decide +kernel)) g.law_lot hr (@sN _ _ _ _ rfl) rfl (@okAO_cons _ _ _ _ _ (@Sc.o _ _ _ _ _ C 0 (by decide +kernel)) (@okAO_cons _ _ _ _ _ (@Sc.o _ _ _ _ _ C 1 (by decide +kernel)) (@okAO_cons _ _ _ _ _ (@Sc.o _ _ _ _ _ C 3 (by decide +kernel)) (@okAO_cons _ _ _ _ _ (@Sc.o _ _ _ _ _ C 4 (by decide +kernel)) (@okAO_cons _ _ _ _ _ (@v9 _ _ _ y5) okAO_nil (@sE _ _ _ rfl)) (@sE _ _ _ rfl)) (@sE _ _ _ rfl)) (@sE _ _ _ rfl)) (@sE _ _ _ rfl)) rfl) x5 (@sE _ _ _ rfl)) (@sE _ _ _ rfl))) x5 (@sE _ _ _ rfl))) rfl) (@x4 _ _ _ _ _ _ (@okS_for _ _ _ _ _ _ _ _ _ PassesOwn.never rfl (@okI_range1 _ _ _ _ _ _ (@Sc.gl _ _ _ _ C (by decide +kernel)) T.z_range (@q7 _ _ _ _ _ _ _ _ _ _ _ _ (@Sc.df _ _ _ _ C _ _ _ (by decide +kernel) T.q_law_take.m T.q_law_take.F.kp T.q_law_take.b (by decide +kernel)) g.law_take hr (@sN _ _ _ _ rfl) rfl (@okAO_cons _ _ _ _ _ (@Sc.o _ _ _ _ _ C 0 (by decide +kernel)) (@okAO_cons _ _ _ _ _ (@v9 _ _ _ (@v7 _ _ _ _ _ _ _ _ _ opS_add (@Sc.o _ _ _ _ _ C 2 (by decide +kernel)) (@v9 _ _ _ y5))) okAO_nil (@sE _ _ _ rfl)) (@sE _ _ _ rfl)) rfl) (@s1 _ _ rfl)) (@Sc.g _ _ _ _ _ C 7 (by decide +kernel)) (by decide +kernel) (@x4 _ _ _ _ _ _ (@w5 _ _ _ _ _ (@Sc.app _ _ _ _ _ _ _ _ _ C 6 (by decide +kernel) (@q7 _ _ _ _ _ _ _ _ _ _ _ _ (@Sc.df _ _ _ _ C _ _ _ (by decide +kernel) T.q_law_event.m T.q_law_event.F.kp T.q_law_event.b (by decide +kernel)) g.law_event hr (@sN _ _ _ _ rfl) rfl (@okAO_cons _ _ _ _ _ (@Sc.o _ _ _ _ _ C 0 (by decide +kernel)) (@okAO_cons _ _ _ _ _ (@Sc.o _ _ _ _ _ C 1 (by decide +kernel)) (@okAO_cons _ _ _ _ _ (@Sc.o _ _ _ _ _ C 3 (by decide +kernel)) (@okAO_cons _ _ _ _ _ (@Sc.o _ _ _ _ _ C 4 (by decide +kernel)) (@okAO_cons _ _ _ _ _ (@Sc.o _ _ _ _ _ C 5 (by decide +kernel)) okAO_nil (@sE _ _ _ rfl)) (@sE _ _ _ rfl)) (@sE _ _ _ rfl)) (@sE _ _ _ rfl)) (@sE _ _ _ rfl)) rfl) (@sE _ _ _ rfl) rfl) rfl) x9) (fun _ => rfl)) (@x4 _ _ _ _ _ _ (@q9 _ _ _ _ _ _ _ _ _ (@j5 _ _ _ _ _ _ _ _ _ (@opS_eq _ (Room.un64 hr)) (@v9 _ _ _ (@q7 _ _ _ _ _ _ _ _ _ _ _ _ (@Sc.df _ _ _ _ C _ _ _ (by decide +kernel) T.q_law_take.m T.q_law_take.F.kp T.q_law_take.b (by decide +kernel)) g.law_take hr (@sN _ _ _ _ rfl) rfl (@okAO_cons _ _ _ _ _ (@Sc.o _ _ _ _ _ C 0 (by decide +kernel)) (@okAO_cons _ _ _ _ _ (@v9 _ _ _ y5) okAO_nil (@sE _ _ _ rfl)) (@sE _ _ _ rfl)) rfl)) (@v9 _ _ _ y5) (nomark _)) (@x4 _ _ _ _ _ _ (@w5 _ _ _ _ _ (@Sc.ins _ _ _ _ _ _ _ _ _ _ _ C 6 (by decide +kernel) (@q7 _ _ _ _ _ _ _ _ _ _ _ _ (@Sc.df _ _ _ _ C _ _ _ (by decide +kernel) T.q_law_take.m T.q_law_take.F.kp T.q_law_take.b (by decide +kernel)) g.law_take hr (@sN _ _ _ _ rfl) rfl (@okAO_cons _ _ _ _ _ (@Sc.o _ _ _ _ _ C 0 (by decide +kernel)) (@okAO_cons _ _ _ _ _ (@v9 _ _ _ (@v7 _ _ _ _ _ _ _ _ _ opS_add (@v9 _ _ _ (@okE_callB _ _ _ _ _ _ _ _ _ _ callS_len (@Sc.gl _ _ _ _ C (by decide +kernel)) T.z_len (by decide +kernel) (@okAO_cons _ _ _ _ _ (@Sc.o _ _ _ _ _ C 6 (by decide +kernel)) okAO_nil (@sE _ _ _ rfl)) (by decide +kernel) (by decide +kernel) (@sN _ _ _ _ rfl))) (@v9 _ _ _ y5))) okAO_nil (@sE _ _ _ rfl)) (@sE _ _ _ rfl)) rfl) (@x8 _ _ _ _ _ (@x3 _ _ _ _ _ (@x6 _ _ _ _ (by decide +kernel)) x5 (@sE _ _ _ rfl))) (@sE _ _ _ rfl) (@sE _ _ _ rfl) rfl rfl rfl) rfl) x9) x9) (@x4 _ _ _ _ _ _ (@y8 _ _ _ _ _ (@okR_e _ _ _ _ (@okE_callTy _ _ _ _ _ _ _ _ _ _ callS_tuple (@Sc.gl _ _ _ _ C (by decide +kernel)) T.z_tuple (by decide +kernel) (@okAO_cons _ _ _ _ _ (@Sc.o _ _ _ _ _ C 6 (by decide +kernel)) okAO_nil (@sE _ _ _ rfl)) (by decide +kernel) (by decide +kernel) (@sN _ _ _ _ rfl)))) x9)))))
theorem sc_law_box : FnScope ["_law_script", "_law_k", "_law_cell"] ["_law_script", "_law_k"] (defScope (top 24)) := ⟨rfl, rfl, rfl, by decide +kernel, rfl, by decide +kernel, by decide +kernel⟩
theorem ok_law_box (g : Good P w K mg base Z T k S) : FnN P w K mg base (k + 1) T.q_law_box.f T.q_law_box.d ["_law_script", "_law_k"] (runN 3 io_law_box (b_law_box)) := fnN_of (N := ["_law_script", "_law_k", "_law_cell"]) T.q_law_box.F sc_law_box fun cdv A outer s H hr => by
  have C : Sc (v3 P w K mg base ["_law_script", "_law_k", "_law_cell"] "_law_box" (top 24) T.q_law_box.f cdv A outer s H) ["_law_script", "_law_k", "_law_cell"] (defScope (top 24)) := ⟨rfl, rfl⟩
  exact (@x4 _ _ _ _ _ _ (@Sc.set _ _ _ _ _ _ _ _ _ C 2 (by decide +kernel) (by decide +kernel) (@okE_if _ _ _ _ _ _ _ _ (@j5 _ _ _ _ _ _ _ _ _ opS_lt (@Sc.o _ _ _ _ _ C 1 (by decide +kernel)) (@v9 _ _ _ (@okE_callB _ _ _ _ _ _ _ _ _ _ callS_len (@Sc.gl _ _ _ _ C (by decide +kernel)) T.z_len (by decide +kernel) (@okAO_cons _ _ _ _ _ (@Sc.o _ _ _ _ _ C 0 (by decide +kernel)) okAO_nil (@sE _ _ _ rfl)) (by decide +kernel) (by decide +kernel) (@sN _ _ _ _ rfl))) (nomark _)) (@j3 _ _ _ _ _ _ (@Sc.o _ _ _ _ _ C 0 (by decide +kernel)) (@Sc.o _ _ _ _ _ C 1 (by decide +kernel)) (fun _ _ => rfl)) y5) rfl) (@x4 _ _ _ _ _ _ (@okS_retNew _ _ _ _ _ (@v8 _ _ _ _ (@x3 _ _ _ _ _ (@v7 _ _ _ _ _ _ _ _ _ opS_mul2 (@v9 _ _ _ (@okE_callB _ _ _ _ _ _ _ _ _ _ callS_abs (@Sc.gl _ _ _ _ C (by decide +kernel)) T.z_abs (by decide +kernel) (@okAO_cons _ _ _ _ _ (@Sc.o _ _ _ _ _ C 2 (by decide +kernel)) okAO_nil (@sE _ _ _ rfl)) (by decide +kernel) (by decide +kernel) (@sN _ _ _ _ rfl))) (@v9 _ _ _ (@okE_callTy _ _ _ _ _ _ _ _ _ _ callS_int (@Sc.gl _ _ _ _ C (by decide +kernel)) T.z_int (by decide +kernel) (@okAO_cons _ _ _ _ _ (@v9 _ _ _ (@okE_cmp _ _ _ _ _ _ _ _ _ opS_ge (@v9 _ _ _ (@okE_callB _ _ _ _ _ _ _ _ _ _ callS_abs (@Sc.gl _ _ _ _ C (by decide +kernel)) T.z_abs (by decide +kernel) (@okAO_cons _ _ _ _ _ (@Sc.o _ _ _ _ _ C 2 (by decide +kernel)) okAO_nil (@sE _ _ _ rfl)) (by decide +kernel) (by decide +kernel) (@sN _ _ _ _ rfl))) (@v9 _ _ _ (@v7 _ _ _ _ _ _ _ _ _ opS_pow (@v9 _ _ _ y5) (@v9 _ _ _ y5))) (nomark _))) okAO_nil (@sE _ _ _ rfl)) (by decide +kernel) (by decide +kernel) (@sN _ _ _ _ rfl)))) (@x3 _ _ _ _ _ (@v7 _ _ _ _ _ _ _ _ _ opS_add (@v9 _ _ _ (@v7 _ _ _ _ _ _ _ _ _ opS_add (@v9 _ _ _ (@v7 _ _ _ _ _ _ _ _ _ opS_mod (@v9 _ _ _ (@okE_callTy _ _ _ _ _ _ _ _ _ _ callS_int (@Sc.gl _ _ _ _ C (by decide +kernel)) T.z_int (by decide +kernel) (@okAO_cons _ _ _ _ _ (@Sc.o _ _ _ _ _ C 2 (by decide +kernel)) okAO_nil (@sE _ _ _ rfl)) (by decide +kernel) (by decide +kernel) (@sN _ _ _ _ rfl))) (@v9 _ _ _ y5))) (@v9 _ _ _ (@v7 _ _ _ _ _ _ _ _ _ opS_mul2 (@v9 _ _ _ y5) (@Sc.o _ _ _ _ _ C 1 (by decide +kernel)))))) (@v9 _ _ _ y5)) (@x3 _ _ _ _ _ y5 x5 (@sE _ _ _ rfl)) (@sE _ _ _ rfl)) (@sE _ _ _ rfl)))) x9))
theorem sc_law_rows : FnScope ["_law_batch", "_law_found", "_law_timer_so", "_law_rest", "_law_tag_so", "_law_deed_so", "_law_words"] ["_law_batch"] (defScope (top 25)) := ⟨rfl, rfl, rfl, by decide +kernel, rfl, by decide +kernel, by decide +kernel⟩
theorem ok_law_rows (g : Good P w K mg base Z T k S) : FnG P w K mg base (k + 1) T.q_law_rows.f T.q_law_rows.d ["_law_batch"] (runF 7 io_law_rows (b_law_rows)) := fnG_of (N := ["_law_batch", "_law_found", "_law_timer_so", "_law_rest", "_law_tag_so", "_law_deed_so", "_law_words"]) T.q_law_rows.F sc_law_rows fun cdv A outer s H hr => by
  have C : Sc (v3 P w K mg base ["_law_batch", "_law_found", "_law_timer_so", "_law_rest", "_law_tag_so", "_law_deed_so", "_law_words"] "_law_rows" (top 25) T.q_law_rows.f cdv A outer s H) ["_law_batch", "_law_found", "_law_timer_so", "_law_rest", "_law_tag_so", "_law_deed_so", "_law_words"] (defScope (top 25)) := ⟨rfl, rfl⟩
  exact (@x4 _ _ _ _ _ _ (C.three 1 2 3 rfl (by decide +kernel) (by decide +kernel) (by decide +kernel) (by decide +kernel) (by decide +kernel) (by decide +kernel) (by decide +kernel) (@okAv_d _ _ _ _ _ (@OkN.dat _ _ _ (@v8 _ _ _ _ x5)) (@okAv_d _ _ _ _ _ v6 (@okAv_d _ _ _ _ _ (@OkN.dat _ _ _ (@v8 _ _ _ _ x5)) okAv_nil (@sE _ _ _ rfl)) (@sE _ _ _ rfl)) (@sE _ _ _ rfl)) rfl rfl) (@x4 _ _ _ _ _ _ (@okS_for _ _ _ _ _ _ _ _ _ PassesOwn.never rfl (@okI_data _ _ _ _ (@v9 _ _ _ (@okE_rev2 _ _ _ _ _ _ _ _ (@Sc.o _ _ _ _ _ C 0 (by decide +kernel))))) (@okG_tup _ _ _ _ _ rfl (@okGs_cons _ _ _ _ _ (@Sc.g _ _ _ _ _ C 4 (by decide +kernel)) (@okGs_cons _ _ _ _ _ (@Sc.g _ _ _ _ _ C 5 (by decide +kernel)) (@okGs_cons _ _ _ _ _ (@Sc.g _ _ _ _ _ C 6 (by decide +kernel)) okGs_nil rfl) rfl) rfl) rfl rfl) (by decide +kernel) (@x4 _ _ _ _ _ _ (@q9 _ _ _ _ _ _ _ _ _ (@j5 _ _ _ _ _ _ _ _ _ (@opS_eq _ (Room.un64 hr)) (@v9 _ _ _ (@j3 _ _ _ _ _ _ (@Sc.o _ _ _ _ _ C 5 (by decide +kernel)) (@v9 _ _ _ y5) (fun _ _ => rfl))) (@v9 _ _ _ (@x6 _ _ _ _ (by decide +kernel))) (nomark _)) (@x4 _ _ _ _ _ _ (@Sc.set _ _ _ _ _ _ _ _ _ C 2 (by decide +kernel) (by decide +kernel) (@Sc.v _ _ _ _ _ C 4 (by decide +kernel)) rfl) x9) (@x4 _ _ _ _ _ _ (@q9 _ _ _ _ _ _ _ _ _ (@OkW.t _ _ _ (@okW_and _ _ _ _ _ _ _ (@j5 _ _ _ _ _ _ _ _ _ (@opS_notIn _ (Room.un65 hr)) (@v9 _ _ _ (@x6 _ _ _ _ (by decide +kernel))) (@Sc.o _ _ _ _ _ C 6 (by decide +kernel)) (by rfl)) (@okW_and _ _ _ _ _ _ _ (@j5 _ _ _ _ _ _ _ _ _ (@opS_notIn _ (Room.un65 hr)) (@v9 _ _ _ (@x6 _ _ _ _ (by decide +kernel))) (@Sc.o _ _ _ _ _ C 6 (by decide +kernel)) (by rfl)) (@okW_and1 _ _ _ _ (@j5 _ _ _ _ _ _ _ _ _ (@opS_ne _ (Room.un64 hr)) (@Sc.o _ _ _ _ _ C 3 (by decide +kernel)) (@v9 _ _ _ (@OkN.dat _ _ _ (@v8 _ _ _ _ x5))) (nomark _)))))) (@x4 _ _ _ _ _ _ (C.two 1 3 rfl (by decide +kernel) (by decide +kernel) (by decide +kernel) (by decide +kernel) (@okAv_d _ _ _ _ _ (@v7 _ _ _ _ _ _ _ _ _ opS_add (@v9 _ _ _ (@OkN.dat _ _ _ (@v8 _ _ _ _ (@x3 _ _ _ _ _ (@okE_callTy _ _ _ _ _ _ _ _ _ _ callS_tuple (@Sc.gl _ _ _ _ C (by decide +kernel)) T.z_tuple (by decide +kernel) (@okAO_cons _ _ _ _ _ (@Sc.o _ _ _ _ _ C 3 (by decide +kernel)) okAO_nil (@sE _ _ _ rfl)) (by decide +kernel) (by decide +kernel) (@sN _ _ _ _ rfl)) x5 (@sE _ _ _ rfl))))) (@Sc.o _ _ _ _ _ C 1 (by decide +kernel))) (@okAv_d _ _ _ _ _ (@OkN.dat _ _ _ (@v8 _ _ _ _ x5)) okAv_nil (@sE _ _ _ rfl)) (@sE _ _ _ rfl)) rfl rfl) x9) x9) (@x4 _ _ _ _ _ _ (C.two 3 2 rfl (by decide +kernel) (by decide +kernel) (by decide +kernel) (by decide +kernel) (@okAv_d _ _ _ _ _ (@v7 _ _ _ _ _ _ _ _ _ opS_add (@v9 _ _ _ (@OkN.dat _ _ _ (@v8 _ _ _ _ (@x3 _ _ _ _ _ (@x8 _ _ _ _ _ (@x3 _ _ _ _ _ (@Sc.v _ _ _ _ _ C 4 (by decide +kernel)) (@x3 _ _ _ _ _ (@Sc.v _ _ _ _ _ C 2 (by decide +kernel)) x5 (@sE _ _ _ rfl)) (@sE _ _ _ rfl))) x5 (@sE _ _ _ rfl))))) (@Sc.o _ _ _ _ _ C 3 (by decide +kernel))) (@okAv_d _ _ _ _ _ v6 okAv_nil (@sE _ _ _ rfl)) (@sE _ _ _ rfl)) rfl rfl) x9))) x9) (fun _ => rfl)) (@x4 _ _ _ _ _ _ (@y8 _ _ _ _ _ (@okR_e _ _ _ _ (@v7 _ _ _ _ _ _ _ _ _ opS_add (@v9 _ _ _ (@OkN.dat _ _ _ (@v8 _ _ _ _ (@x3 _ _ _ _ _ (@okE_callTy _ _ _ _ _ _ _ _ _ _ callS_tuple (@Sc.gl _ _ _ _ C (by decide +kernel)) T.z_tuple (by decide +kernel) (@okAO_cons _ _ _ _ _ (@Sc.o _ _ _ _ _ C 3 (by decide +kernel)) okAO_nil (@sE _ _ _ rfl)) (by decide +kernel) (by decide +kernel) (@sN _ _ _ _ rfl)) x5 (@sE _ _ _ rfl))))) (@Sc.o _ _ _ _ _ C 1 (by decide +kernel))))) x9)))
end
end K03
namespace K03
open PySem PySem.Spec L2 DL HL
section
variable {P : Program} {w : World} {K : PySem.W.Frag} {mg : Str → Option Value} {base : Heap} {Z : Ads} {T : Tab K w mg Z} {k : Nat} {S : Sems}
theorem sc_chains : FnScope ["lot", "found", "goes_on", "tag", "deed", "flags", "chain"] ["lot"] (defScope (top 6)) := ⟨rfl, rfl, rfl, by decide +kernel, rfl, by decide +kernel, by decide +kernel⟩
theorem ok_chains (g : Good P w K mg base Z T k S) : GH.FnH P w K mg base (ctOf Z) (k + 1) T.q_chains.f T.q_chains.d ["lot"] (GH.runH 7 (b_chains S.tupled S.has_link)) := GH.fnH_of (N := ["lot", "found", "goes_on", "tag", "deed", "flags", "chain"]) T.q_chains.F sc_chains fun cdv A outer s H hcd hr => by
  have C : Sc (v3 P w K mg base ["lot", "found", "goes_on", "tag", "deed", "flags", "chain"] "chains" (top 6) T.q_chains.f cdv A outer s H) ["lot", "found", "goes_on", "tag", "deed", "flags", "chain"] (defScope (top 6)) := ⟨rfl, rfl⟩
  exact (@GH.x4 _ _ _ _ _ _ (@GH.Sg.two _ _ _ _ _ _ _ _ _ _ _ _ _ _ _ _ C 1 2 rfl (by decide +kernel) (by decide +kernel) (by decide +kernel) (@GH.x3 _ _ _ _ _ _ (@GH.OkN.obj _ _ _ _ (@GH.v8 _ _ _ _ _ GH.x5)) (@GH.x3 _ _ _ _ _ _ (@GH.x7 _ _ _ _ w4) GH.x5 (@sE _ _ _ rfl)) (@sE _ _ _ rfl)) rfl rfl) (@GH.x4 _ _ _ _ _ _ (@GH.okS_for _ _ _ _ _ _ _ _ _ PassesOwn.never rfl (@GH.okI_v _ _ _ _ _ (@GH.okE_fo _ _ _ _ _ _ _ _ _ _ _ _ _ (@Sc.df _ _ _ _ C _ _ _ (by decide +kernel) T.q_tupled.m T.q_tupled.F.kp T.q_tupled.b (by decide +kernel)) g.tupled hr (@sN _ _ _ _ rfl) rfl (@GH.x3 _ _ _ _ _ _ (@GH.Sg.v _ _ _ _ _ _ C 0 (by decide +kernel)) GH.x5 (@sE _ _ _ rfl)) (@GH.y4 _ _ _ GH.y9))) (@GH.okG_tup _ _ _ _ _ rfl (@GH.okGs_cons _ _ _ _ _ (@GH.Sg.g _ _ _ _ _ C 3 (by decide +kernel)) (@GH.okGs_cons _ _ _ _ _ (@GH.Sg.g _ _ _ _ _ C 4 (by decide +kernel)) (@GH.okGs_cons _ _ _ _ _ (@GH.Sg.g _ _ _ _ _ C 5 (by decide +kernel)) GH.okGs_nil rfl) rfl) rfl) rfl rfl) (@GH.x4 _ _ _ _ _ _ (@GH.q9 _ _ _ _ _ _ _ _ _ (@GH.j5 _ _ _ _ _ _ _ _ _ _ (@opS_eq _ (Room.un64 hr)) (@GH.j3 _ _ _ _ _ _ _ (Room.un2 hr) (@GH.Sg.v _ _ _ _ _ _ C 4 (by decide +kernel)) (@GH.x7 _ _ _ _ y5) (fun _ _ => rfl) (fun _ _ => rfl)) (@GH.x7 _ _ _ _ (@x6 _ _ _ _ (by decide +kernel))) (nomark _)) (@GH.x4 _ _ _ _ _ _ (GH.okS_lput (@GH.j3 _ _ _ _ _ _ _ (Room.un2 hr) (@GH.Sg.v _ _ _ _ _ _ C 1 (by decide +kernel)) (@GH.x7 _ _ _ _ (@okE_neg _ _ _ _ y5)) (fun _ _ => rfl) (fun _ _ => rfl)) (@GH.x7 _ _ _ _ (@okE_neg _ _ _ _ y5)) (@GH.x8 _ _ _ _ _ _ (@GH.x3 _ _ _ _ _ _ (@GH.j3 _ _ _ _ _ _ _ (Room.un2 hr) (@GH.j3 _ _ _ _ _ _ _ (Room.un2 hr) (@GH.j3 _ _ _ _ _ _ _ (Room.un2 hr) (@GH.Sg.v _ _ _ _ _ _ C 1 (by decide +kernel)) (@GH.x7 _ _ _ _ (@okE_neg _ _ _ _ y5)) (fun _ _ => rfl) (fun _ _ => rfl)) (@GH.x7 _ _ _ _ (@okE_neg _ _ _ _ y5)) (fun _ _ => rfl) (fun _ _ => rfl)) (@GH.x7 _ _ _ _ y5) (fun _ _ => rfl) (fun _ _ => rfl)) (@GH.x3 _ _ _ _ _ _ (@GH.Sg.v _ _ _ _ _ _ C 3 (by decide +kernel)) GH.x5 (@sE _ _ _ rfl)) (@sE _ _ _ rfl))) (fun _ => rfl) rfl rfl rfl) GH.x9) (@GH.x4 _ _ _ _ _ _ (@GH.q9 _ _ _ _ _ _ _ _ _ (@GH.v5 _ _ _ _ (@GH.Sg.v _ _ _ _ _ _ C 2 (by decide +kernel)) (fun _ => rfl)) (@GH.x4 _ _ _ _ _ _ (@GH.w5 _ _ _ _ _ (@GH.okE_app _ _ _ _ _ _ _ _ (@GH.j3 _ _ _ _ _ _ _ (Room.un2 hr) (@GH.Sg.v _ _ _ _ _ _ C 1 (by decide +kernel)) (@GH.x7 _ _ _ _ (@okE_neg _ _ _ _ y5)) (fun _ _ => rfl) (fun _ _ => rfl)) (@GH.x8 _ _ _ _ _ _ (@GH.x3 _ _ _ _ _ _ (@GH.Sg.v _ _ _ _ _ _ C 3 (by decide +kernel)) (@GH.x3 _ _ _ _ _ _ (@GH.x7 _ _ _ _ v6) GH.x5 (@sE _ _ _ rfl)) (@sE _ _ _ rfl))) rfl (@sE _ _ _ rfl) rfl) rfl) GH.x9) (@GH.x4 _ _ _ _ _ _ (@GH.w5 _ _ _ _ _ (@GH.okE_app _ _ _ _ _ _ _ _ (@GH.Sg.v _ _ _ _ _ _ C 1 (by decide +kernel)) (@GH.OkN.obj _ _ _ _ (@GH.v8 _ _ _ _ _ (@GH.x3 _ _ _ _ _ _ (@GH.x8 _ _ _ _ _ _ (@GH.x3 _ _ _ _ _ _ (@GH.Sg.v _ _ _ _ _ _ C 3 (by decide +kernel)) (@GH.x3 _ _ _ _ _ _ (@GH.x7 _ _ _ _ v6) GH.x5 (@sE _ _ _ rfl)) (@sE _ _ _ rfl))) GH.x5 (@sE _ _ _ rfl)))) rfl (@sE _ _ _ rfl) rfl) rfl) GH.x9)) (@GH.x4 _ _ _ _ _ _ (@GH.Sg.set _ _ _ _ _ _ _ _ _ C 2 (by decide +kernel) (@GH.okE_fo _ _ _ _ _ _ _ _ _ _ _ _ _ (@Sc.df _ _ _ _ C _ _ _ (by decide +kernel) T.q_has_link.m T.q_has_link.F.kp T.q_has_link.b (by decide +kernel)) g.has_link hr (@sN _ _ _ _ rfl) rfl (@GH.x3 _ _ _ _ _ _ (@GH.x8 _ _ _ _ _ _ (@GH.x3 _ _ _ _ _ _ (@GH.Sg.v _ _ _ _ _ _ C 3 (by decide +kernel)) (@GH.x3 _ _ _ _ _ _ (@GH.Sg.v _ _ _ _ _ _ C 4 (by decide +kernel)) (@GH.x3 _ _ _ _ _ _ (@GH.Sg.v _ _ _ _ _ _ C 5 (by decide +kernel)) GH.x5 (@sE _ _ _ rfl)) (@sE _ _ _ rfl)) (@sE _ _ _ rfl))) GH.x5 (@sE _ _ _ rfl)) (@GH.y4 _ _ _ GH.y9)) rfl) GH.x9))) GH.x9) (fun _ => rfl)) (@GH.x4 _ _ _ _ _ _ (@GH.y8 _ _ _ _ _ (@GH.OkN.obj _ _ _ _ (GH.Sg.lc C [ ("chain",6) ] rfl (by decide +kernel) (by decide +kernel) rfl (fun _ => rfl) (@GH.okI_v _ _ _ _ _ (@GH.Sg.v _ _ _ _ _ _ C 1 (by decide +kernel))) (fun s0 H0 C0 cl fp => (@GH.Sg.g _ _ _ _ _ C.blk 6 (by decide +kernel))) (fun s0 H0 C0 cl fp => GH.okTs_nil) (fun s0 H0 C0 cl fp => (@GH.okE_callTy _ _ _ _ _ _ _ _ _ _ _ callS_tuple (@Sc.gl _ _ _ _ C.blk (by decide +kernel)) T.z_tuple (by decide +kernel) (@GH.x3 _ _ _ _ _ _ (@GH.Sg.v _ _ _ _ _ _ C.blk 6 (by decide +kernel)) GH.x5 (@sE _ _ _ rfl)) (by decide +kernel) (by decide +kernel) (@sN _ _ _ _ rfl)))))) GH.x9)))
theorem sc_law_right : FnScope ["_law_box_here", "_law_setup_so", "_law_turn", "_law_some", "_law_due", "_law_soft", "_law_shown", "_law_told", "_law_story", "_law_part", "_law_wish"] ["_law_box_here"] (defScope (top 26)) := ⟨rfl, rfl, rfl, by decide +kernel, rfl, by decide +kernel, by decide +kernel⟩
theorem ok_law_right (g : Good P w K mg base Z T k S) : GH.FnH P w K mg base (ctOf Z) (k + 1) T.q_law_right.f T.q_law_right.d ["_law_box_here"] (GH.runH 11 (b_law_right S.tags S.law_name S.law_names S.law_named_setup S.law_lot S.law_mixed S.law_lists S.law_same S.law_named_script S.law_rows S.chains)) := GH.fnH_of (N := ["_law_box_here", "_law_setup_so", "_law_turn", "_law_some", "_law_due", "_law_soft", "_law_shown", "_law_told", "_law_story", "_law_part", "_law_wish"]) T.q_law_right.F sc_law_right fun cdv A outer s H hcd hr => by
  have C : Sc (v3 P w K mg base ["_law_box_here", "_law_setup_so", "_law_turn", "_law_some", "_law_due", "_law_soft", "_law_shown", "_law_told", "_law_story", "_law_part", "_law_wish"] "_law_right" (top 26) T.q_law_right.f cdv A outer s H) ["_law_box_here", "_law_setup_so", "_law_turn", "_law_some", "_law_due", "_law_soft", "_law_shown", "_law_told", "_law_story", "_law_part", "_law_wish"] (defScope (top 26)) := ⟨rfl, rfl⟩
  exact (@GH.x4 _ _ _ _ _ _ (@GH.Sg.set _ _ _ _ _ _ _ _ _ C 1 (by decide +kernel) (@GH.okE_fo _ _ _ _ _ _ _ _ _ _ _ _ _ (@Sc.df _ _ _ _ C _ _ _ (by decide +kernel) T.q_law_named_setup.m T.q_law_named_setup.F.kp T.q_law_named_setup.b (by decide +kernel)) g.law_named_setup hr (@sN _ _ _ _ rfl) rfl (@GH.x3 _ _ _ _ _ _ (@GH.Sg.v _ _ _ _ _ _ C 0 (by decide +kernel)) (@GH.x3 _ _ _ _ _ _ (@GH.x7 _ _ _ _ y5) GH.x5 (@sE _ _ _ rfl)) (@sE _ _ _ rfl)) (@GH.y4 _ _ _ (@GH.y4 _ _ _ GH.y9))) rfl) (@GH.x4 _ _ _ _ _ _ (@GH.okS_for _ _ _ _ _ _ _ _ _ PassesOwn.never rfl (@GH.okI_rg1 _ _ _ _ _ _ _ (@Sc.gl _ _ _ _ C (by decide +kernel)) T.z_range (@GH.x7 _ _ _ _ y5) (@s1 _ _ rfl)) (@GH.Sg.g _ _ _ _ _ C 2 (by decide +kernel)) (@GH.x4 _ _ _ _ _ _ (@GH.Sg.set _ _ _ _ _ _ _ _ _ C 3 (by decide +kernel) (@GH.okE_fo _ _ _ _ _ _ _ _ _ _ _ _ _ (@Sc.df _ _ _ _ C _ _ _ (by decide +kernel) T.q_law_lot.m T.q_law_lot.F.kp T.q_law_lot.b (by decide +kernel)) g.law_lot hr (@sN _ _ _ _ rfl) rfl (@GH.x3 _ _ _ _ _ _ (@GH.Sg.v _ _ _ _ _ _ C 0 (by decide +kernel)) (@GH.x3 _ _ _ _ _ _ (@GH.Sg.v _ _ _ _ _ _ C 1 (by decide +kernel)) (@GH.x3 _ _ _ _ _ _ (@GH.OkN.obj _ _ _ _ (@GH.okN_fo _ _ _ _ _ _ _ _ _ _ _ _ _ (@Sc.df _ _ _ _ C _ _ _ (by decide +kernel) T.q_law_names.m T.q_law_names.F.kp T.q_law_names.b (by decide +kernel)) g.law_names hr (@sN _ _ _ _ rfl) rfl (@GH.x3 _ _ _ _ _ _ (@GH.Sg.v _ _ _ _ _ _ C 0 (by decide +kernel)) (@GH.x3 _ _ _ _ _ _ (@GH.x7 _ _ _ _ y5) GH.x5 (@sE _ _ _ rfl)) (@sE _ _ _ rfl)) (@GH.y4 _ _ _ (@GH.y4 _ _ _ GH.y9)))) (@GH.x3 _ _ _ _ _ _ (@GH.OkN.obj _ _ _ _ (@GH.v8 _ _ _ _ _ (@GH.x3 _ _ _ _ _ _ (@GH.okE_fo _ _ _ _ _ _ _ _ _ _ _ _ _ (@Sc.df _ _ _ _ C _ _ _ (by decide +kernel) T.q_law_name.m T.q_law_name.F.kp T.q_law_name.b (by decide +kernel)) g.law_name hr (@sN _ _ _ _ rfl) rfl (@GH.x3 _ _ _ _ _ _ (@GH.Sg.v _ _ _ _ _ _ C 0 (by decide +kernel)) GH.x5 (@sE _ _ _ rfl)) (@GH.y4 _ _ _ GH.y9)) GH.x5 (@sE _ _ _ rfl)))) (@GH.x3 _ _ _ _ _ _ (@GH.x7 _ _ _ _ y5) GH.x5 (@sE _ _ _ rfl)) (@sE _ _ _ rfl)) (@sE _ _ _ rfl)) (@sE _ _ _ rfl)) (@sE _ _ _ rfl)) (@GH.y4 _ _ _ (@GH.y4 _ _ _ (@GH.y4 _ _ _ (@GH.y4 _ _ _ (@GH.y4 _ _ _ GH.y9)))))) rfl) (@GH.x4 _ _ _ _ _ _ (@GH.Sg.three _ _ _ _ _ _ _ _ _ _ _ _ _ _ _ _ _ _ _ C 4 5 6 rfl (by decide +kernel) (by decide +kernel) (by decide +kernel) (by decide +kernel) (by decide +kernel) (by decide +kernel) (@GH.x3 _ _ _ _ _ _ (@GH.okE_fo _ _ _ _ _ _ _ _ _ _ _ _ _ (@Sc.df _ _ _ _ C _ _ _ (by decide +kernel) T.q_law_rows.m T.q_law_rows.F.kp T.q_law_rows.b (by decide +kernel)) g.law_rows hr (@sN _ _ _ _ rfl) rfl (@GH.x3 _ _ _ _ _ _ (@GH.Sg.v _ _ _ _ _ _ C 3 (by decide +kernel)) GH.x5 (@sE _ _ _ rfl)) (@GH.y4 _ _ _ GH.y9)) (@GH.x3 _ _ _ _ _ _ (@GH.okE_fo _ _ _ _ _ _ _ _ _ _ _ _ _ (@Sc.df _ _ _ _ C _ _ _ (by decide +kernel) T.q_law_mixed.m T.q_law_mixed.F.kp T.q_law_mixed.b (by decide +kernel)) g.law_mixed hr (@sN _ _ _ _ rfl) rfl (@GH.x3 _ _ _ _ _ _ (@GH.Sg.v _ _ _ _ _ _ C 0 (by decide +kernel)) (@GH.x3 _ _ _ _ _ _ (@GH.Sg.v _ _ _ _ _ _ C 3 (by decide +kernel)) GH.x5 (@sE _ _ _ rfl)) (@sE _ _ _ rfl)) (@GH.y4 _ _ _ (@GH.y4 _ _ _ GH.y9))) (@GH.x3 _ _ _ _ _ _ (@GH.okE_callB _ _ _ _ _ _ _ _ _ _ _ (@callS_repr _ (Room.un64 hr) hr.gd) (@Sc.gl _ _ _ _ C (by decide +kernel)) T.z_repr (by decide +kernel) (@GH.x3 _ _ _ _ _ _ (@GH.Sg.v _ _ _ _ _ _ C 3 (by decide +kernel)) GH.x5 (@sE _ _ _ rfl)) (by decide +kernel) (by decide +kernel) (@sN _ _ _ _ rfl)) GH.x5 (@sE _ _ _ rfl)) (@sE _ _ _ rfl)) (@sE _ _ _ rfl)) rfl rfl) (@GH.x4 _ _ _ _ _ _ (@GH.Sg.set _ _ _ _ _ _ _ _ _ C 7 (by decide +kernel) (@GH.OkN.obj _ _ _ _ (@GH.v8 _ _ _ _ _ (@GH.x3 _ _ _ _ _ _ (@GH.q7 _ _ _ _ _ _ _ _ _ _ _ _ _ (@Sc.df _ _ _ _ C _ _ _ (by decide +kernel) T.q_chains.m T.q_chains.F.kp T.q_chains.b (by decide +kernel)) g.chains hr (@sN _ _ _ _ rfl) rfl (@GH.x3 _ _ _ _ _ _ (@GH.Sg.v _ _ _ _ _ _ C 3 (by decide +kernel)) GH.x5 (@sE _ _ _ rfl)) (@GH.y4 _ _ _ GH.y9)) (@GH.x3 _ _ _ _ _ _ (GH.okE_fnk (@Sc.df _ _ _ _ C _ _ _ (by decide +kernel) T.q_chains.m T.q_chains.F.kp T.q_chains.b (by decide +kernel)) T.k_chains g.chains hr (@GH.okE_fo _ _ _ _ _ _ _ _ _ _ _ _ _ (@Sc.df _ _ _ _ C _ _ _ (by decide +kernel) T.q_law_lists.m T.q_law_lists.F.kp T.q_law_lists.b (by decide +kernel)) g.law_lists hr (@sN _ _ _ _ rfl) rfl (@GH.x3 _ _ _ _ _ _ (@GH.Sg.v _ _ _ _ _ _ C 3 (by decide +kernel)) GH.x5 (@sE _ _ _ rfl)) (@GH.y4 _ _ _ GH.y9))) (@GH.x3 _ _ _ _ _ _ (@GH.q7 _ _ _ _ _ _ _ _ _ _ _ _ _ (@Sc.df _ _ _ _ C _ _ _ (by decide +kernel) T.q_chains.m T.q_chains.F.kp T.q_chains.b (by decide +kernel)) g.chains hr (@sN _ _ _ _ rfl) rfl (@GH.x3 _ _ _ _ _ _ (@GH.Sg.v _ _ _ _ _ _ C 5 (by decide +kernel)) GH.x5 (@sE _ _ _ rfl)) (@GH.y4 _ _ _ GH.y9)) GH.x5 (@sE _ _ _ rfl)) (@sE _ _ _ rfl)) (@sE _ _ _ rfl)))) rfl) (@GH.x4 _ _ _ _ _ _ (@GH.q9 _ _ _ _ _ _ _ _ _ (@GH.OkW.t _ _ _ _ _ _ (@GH.okW_or _ _ _ _ _ _ _ _ (@GH.okT_not _ _ _ _ _ (@GH.v5 _ _ _ _ (GH.okE_fv (@Sc.df _ _ _ _ C _ _ _ (by decide +kernel) T.q_law_same.m T.q_law_same.F.kp T.q_law_same.b (by decide +kernel)) g.law_same hr (@sN _ _ _ _ rfl) rfl (@GH.x3 _ _ _ _ _ _ (@GH.Sg.v _ _ _ _ _ _ C 7 (by decide +kernel)) (@GH.x3 _ _ _ _ _ _ (@GH.v7 _ _ _ _ _ _ _ _ _ _ opS_mul2 (@GH.OkN.dat _ _ _ _ (@GH.v8 _ _ _ _ _ (@GH.x3 _ _ _ _ _ _ (@GH.Sg.v _ _ _ _ _ _ C 4 (by decide +kernel)) GH.x5 (@sE _ _ _ rfl)))) (@GH.x7 _ _ _ _ y5)) GH.x5 (@sE _ _ _ rfl)) (@sE _ _ _ rfl)) (@GH.y4 _ _ _ (@GH.y4 _ _ _ GH.y9))) (fun _ => rfl))) (@GH.okW_or1 _ _ _ _ _ (@GH.j5 _ _ _ _ _ _ _ _ _ _ (@opS_ne _ (Room.un64 hr)) (@GH.okE_callB _ _ _ _ _ _ _ _ _ _ _ (@callS_repr _ (Room.un64 hr) hr.gd) (@Sc.gl _ _ _ _ C (by decide +kernel)) T.z_repr (by decide +kernel) (@GH.x3 _ _ _ _ _ _ (@GH.Sg.v _ _ _ _ _ _ C 3 (by decide +kernel)) GH.x5 (@sE _ _ _ rfl)) (by decide +kernel) (by decide +kernel) (@sN _ _ _ _ rfl)) (@GH.Sg.v _ _ _ _ _ _ C 6 (by decide +kernel)) (nomark _))))) (@GH.x4 _ _ _ _ _ _ (@GH.y8 _ _ _ _ _ (@GH.x7 _ _ _ _ w4)) GH.x9) GH.x9) (@GH.x4 _ _ _ _ _ _ (@GH.w5 _ _ _ _ _ (@GH.okE_app _ _ _ _ _ _ _ _ (@GH.j3 _ _ _ _ _ _ _ (Room.un2 hr) (@GH.Sg.v _ _ _ _ _ _ C 7 (by decide +kernel)) (@GH.x7 _ _ _ _ y5) (fun _ _ => rfl) (fun _ _ => rfl)) (@GH.x7 _ _ _ _ (@x6 _ _ _ _ (by decide +kernel))) rfl (@sE _ _ _ rfl) rfl) rfl) (@GH.x4 _ _ _ _ _ _ (@GH.q9 _ _ _ _ _ _ _ _ _ (@GH.okT_not _ _ _ _ _ (@GH.v5 _ _ _ _ (GH.okE_fv (@Sc.df _ _ _ _ C _ _ _ (by decide +kernel) T.q_law_same.m T.q_law_same.F.kp T.q_law_same.b (by decide +kernel)) g.law_same hr (@sN _ _ _ _ rfl) rfl (@GH.x3 _ _ _ _ _ _ (@GH.q7 _ _ _ _ _ _ _ _ _ _ _ _ _ (@Sc.df _ _ _ _ C _ _ _ (by decide +kernel) T.q_chains.m T.q_chains.F.kp T.q_chains.b (by decide +kernel)) g.chains hr (@sN _ _ _ _ rfl) rfl (@GH.x3 _ _ _ _ _ _ (@GH.Sg.v _ _ _ _ _ _ C 3 (by decide +kernel)) GH.x5 (@sE _ _ _ rfl)) (@GH.y4 _ _ _ GH.y9)) (@GH.x3 _ _ _ _ _ _ (@GH.Sg.v _ _ _ _ _ _ C 4 (by decide +kernel)) GH.x5 (@sE _ _ _ rfl)) (@sE _ _ _ rfl)) (@GH.y4 _ _ _ (@GH.y4 _ _ _ GH.y9))) (fun _ => rfl))) (@GH.x4 _ _ _ _ _ _ (@GH.y8 _ _ _ _ _ (@GH.x7 _ _ _ _ w4)) GH.x9) GH.x9) (@GH.x4 _ _ _ _ _ _ (@GH.Sg.set _ _ _ _ _ _ _ _ _ C 8 (by decide +kernel) (@GH.okE_fo _ _ _ _ _ _ _ _ _ _ _ _ _ (@Sc.df _ _ _ _ C _ _ _ (by decide +kernel) T.q_law_named_script.m T.q_law_named_script.F.kp T.q_law_named_script.b (by decide +kernel)) g.law_named_script hr (@sN _ _ _ _ rfl) rfl (@GH.x3 _ _ _ _ _ _ (@GH.Sg.v _ _ _ _ _ _ C 0 (by decide +kernel)) (@GH.x3 _ _ _ _ _ _ (@GH.Sg.v _ _ _ _ _ _ C 1 (by decide +kernel)) (@GH.x3 _ _ _ _ _ _ (@GH.x7 _ _ _ _ y5) GH.x5 (@sE _ _ _ rfl)) (@sE _ _ _ rfl)) (@sE _ _ _ rfl)) (@GH.y4 _ _ _ (@GH.y4 _ _ _ (@GH.y4 _ _ _ GH.y9)))) rfl) (@GH.x4 _ _ _ _ _ _ (@GH.Sg.set _ _ _ _ _ _ _ _ _ C 4 (by decide +kernel) (@GH.OkN.obj _ _ _ _ (@GH.v8 _ _ _ _ _ GH.x5)) rfl) (@GH.x4 _ _ _ _ _ _ (@GH.okS_for _ _ _ _ _ _ _ _ _ PassesOwn.never rfl (@GH.okI_v _ _ _ _ _ (@GH.Sg.v _ _ _ _ _ _ C 8 (by decide +kernel))) (@GH.Sg.g _ _ _ _ _ C 9 (by decide +kernel)) (@GH.x4 _ _ _ _ _ _ (@GH.Sg.set _ _ _ _ _ _ _ _ _ C 4 (by decide +kernel) (@GH.v7 _ _ _ _ _ _ _ _ _ _ opS_add (@GH.Sg.v _ _ _ _ _ _ C 4 (by decide +kernel)) (@GH.okE_if _ _ _ _ _ _ _ _ _ (@GH.j5 _ _ _ _ _ _ _ _ _ _ (@opS_eq _ (Room.un64 hr)) (@GH.j3 _ _ _ _ _ _ _ (Room.un2 hr) (@GH.Sg.v _ _ _ _ _ _ C 9 (by decide +kernel)) (@GH.x7 _ _ _ _ y5) (fun _ _ => rfl) (fun _ _ => rfl)) (@GH.x7 _ _ _ _ (@x6 _ _ _ _ (by decide +kernel))) (nomark _)) (@GH.OkN.dat _ _ _ _ (GH.Sg.lc C [ ("_law_wish",10) ] rfl (by decide +kernel) (by decide +kernel) rfl (fun _ => rfl) (@GH.okI_v _ _ _ _ _ (@GH.j3 _ _ _ _ _ _ _ (Room.un2 hr) (@GH.Sg.v _ _ _ _ _ _ C 9 (by decide +kernel)) (@GH.x7 _ _ _ _ y5) (fun _ _ => rfl) (fun _ _ => rfl))) (fun s0 H0 C0 cl fp => (@GH.Sg.g _ _ _ _ _ C.blk 10 (by decide +kernel))) (fun s0 H0 C0 cl fp => GH.okTs_nil) (fun s0 H0 C0 cl fp => (@GH.j3 _ _ _ _ _ _ _ (Room.un2 hr) (@GH.Sg.v _ _ _ _ _ _ C.blk 10 (by decide +kernel)) (@GH.x7 _ _ _ _ y5) (fun _ _ => rfl) (fun _ _ => rfl))))) (@GH.OkN.dat _ _ _ _ (@GH.v8 _ _ _ _ _ GH.x5)))) rfl) GH.x9) (fun _ => rfl)) (@GH.x4 _ _ _ _ _ _ (@GH.q9 _ _ _ _ _ _ _ _ _ (@GH.okT_not _ _ _ _ _ (@GH.v5 _ _ _ _ (GH.okE_fv (@Sc.df _ _ _ _ C _ _ _ (by decide +kernel) T.q_law_same.m T.q_law_same.F.kp T.q_law_same.b (by decide +kernel)) g.law_same hr (@sN _ _ _ _ rfl) rfl (@GH.x3 _ _ _ _ _ _ (@GH.OkN.dat _ _ _ _ (@GH.v8 _ _ _ _ _ (@GH.x3 _ _ _ _ _ _ (@GH.okE_fo _ _ _ _ _ _ _ _ _ _ _ _ _ (@Sc.df _ _ _ _ C _ _ _ (by decide +kernel) T.q_tags.m T.q_tags.F.kp T.q_tags.b (by decide +kernel)) g.tags hr (@sN _ _ _ _ rfl) rfl (@GH.x3 _ _ _ _ _ _ (@GH.Sg.v _ _ _ _ _ _ C 8 (by decide +kernel)) GH.x5 (@sE _ _ _ rfl)) (@GH.y4 _ _ _ GH.y9)) (@GH.x3 _ _ _ _ _ _ (@GH.okE_fo _ _ _ _ _ _ _ _ _ _ _ _ _ (@Sc.df _ _ _ _ C _ _ _ (by decide +kernel) T.q_tags.m T.q_tags.F.kp T.q_tags.b (by decide +kernel)) g.tags hr (@sN _ _ _ _ rfl) rfl (@GH.x3 _ _ _ _ _ _ (@GH.okE_fo _ _ _ _ _ _ _ _ _ _ _ _ _ (@Sc.df _ _ _ _ C _ _ _ (by decide +kernel) T.q_law_mixed.m T.q_law_mixed.F.kp T.q_law_mixed.b (by decide +kernel)) g.law_mixed hr (@sN _ _ _ _ rfl) rfl (@GH.x3 _ _ _ _ _ _ (@GH.Sg.v _ _ _ _ _ _ C 0 (by decide +kernel)) (@GH.x3 _ _ _ _ _ _ (@GH.Sg.v _ _ _ _ _ _ C 8 (by decide +kernel)) GH.x5 (@sE _ _ _ rfl)) (@sE _ _ _ rfl)) (@GH.y4 _ _ _ (@GH.y4 _ _ _ GH.y9))) GH.x5 (@sE _ _ _ rfl)) (@GH.y4 _ _ _ GH.y9)) GH.x5 (@sE _ _ _ rfl)) (@sE _ _ _ rfl)))) (@GH.x3 _ _ _ _ _ _ (@GH.v7 _ _ _ _ _ _ _ _ _ _ opS_mul2 (@GH.OkN.dat _ _ _ _ (@GH.v8 _ _ _ _ _ (@GH.x3 _ _ _ _ _ _ (@GH.okE_callTy _ _ _ _ _ _ _ _ _ _ _ callS_tuple (@Sc.gl _ _ _ _ C (by decide +kernel)) T.z_tuple (by decide +kernel) (@GH.x3 _ _ _ _ _ _ (@GH.Sg.v _ _ _ _ _ _ C 4 (by decide +kernel)) GH.x5 (@sE _ _ _ rfl)) (by decide +kernel) (by decide +kernel) (@sN _ _ _ _ rfl)) GH.x5 (@sE _ _ _ rfl)))) (@GH.x7 _ _ _ _ y5)) GH.x5 (@sE _ _ _ rfl)) (@sE _ _ _ rfl)) (@GH.y4 _ _ _ (@GH.y4 _ _ _ GH.y9))) (fun _ => rfl))) (@GH.x4 _ _ _ _ _ _ (@GH.y8 _ _ _ _ _ (@GH.x7 _ _ _ _ w4)) GH.x9) GH.x9) GH.x9)))))))))) (fun _ => rfl)) (@GH.x4 _ _ _ _ _ _ (@GH.y8 _ _ _ _ _ (GH.okE_fv (@Sc.df _ _ _ _ C _ _ _ (by decide +kernel) T.q_law_same.m T.q_law_same.F.kp T.q_law_same.b (by decide +kernel)) g.law_same hr (@sN _ _ _ _ rfl) rfl (@GH.x3 _ _ _ _ _ _ (@GH.OkN.dat _ _ _ _ (@GH.v8 _ _ _ _ _ (@GH.x3 _ _ _ _ _ _ (@GH.okE_fo _ _ _ _ _ _ _ _ _ _ _ _ _ (@Sc.df _ _ _ _ C _ _ _ (by decide +kernel) T.q_tags.m T.q_tags.F.kp T.q_tags.b (by decide +kernel)) g.tags hr (@sN _ _ _ _ rfl) rfl (@GH.x3 _ _ _ _ _ _ (@GH.x8 _ _ _ _ _ _ GH.x5) GH.x5 (@sE _ _ _ rfl)) (@GH.y4 _ _ _ GH.y9)) (@GH.x3 _ _ _ _ _ _ (@GH.okE_fo _ _ _ _ _ _ _ _ _ _ _ _ _ (@Sc.df _ _ _ _ C _ _ _ (by decide +kernel) T.q_tags.m T.q_tags.F.kp T.q_tags.b (by decide +kernel)) g.tags hr (@sN _ _ _ _ rfl) rfl (@GH.x3 _ _ _ _ _ _ (@GH.x8 _ _ _ _ _ _ (@GH.x3 _ _ _ _ _ _ (@GH.x8 _ _ _ _ _ _ (@GH.x3 _ _ _ _ _ _ (@GH.x7 _ _ _ _ (@x6 _ _ _ _ (by decide +kernel))) GH.x5 (@sE _ _ _ rfl))) (@GH.x3 _ _ _ _ _ _ (@GH.x8 _ _ _ _ _ _ (@GH.x3 _ _ _ _ _ _ (@GH.x7 _ _ _ _ (@x6 _ _ _ _ (by decide +kernel))) GH.x5 (@sE _ _ _ rfl))) GH.x5 (@sE _ _ _ rfl)) (@sE _ _ _ rfl))) GH.x5 (@sE _ _ _ rfl)) (@GH.y4 _ _ _ GH.y9)) GH.x5 (@sE _ _ _ rfl)) (@sE _ _ _ rfl)))) (@GH.x3 _ _ _ _ _ _ (@GH.OkN.dat _ _ _ _ (@GH.v8 _ _ _ _ _ (@GH.x3 _ _ _ _ _ _ (@GH.x8 _ _ _ _ _ _ GH.x5) (@GH.x3 _ _ _ _ _ _ (@GH.x8 _ _ _ _ _ _ GH.x5) GH.x5 (@sE _ _ _ rfl)) (@sE _ _ _ rfl)))) GH.x5 (@sE _ _ _ rfl)) (@sE _ _ _ rfl)) (@GH.y4 _ _ _ (@GH.y4 _ _ _ GH.y9)))) GH.x9)))
theorem sc_law : FnScope ["_law_script", "_law_k", "_law_box_here", "_law_turn"] ["_law_script"] (defScope (top 27)) := ⟨rfl, rfl, rfl, by decide +kernel, rfl, by decide +kernel, by decide +kernel⟩
theorem ok_law (g : Good P w K mg base Z T k S) : GH.FnH P w K mg base (ctOf Z) (k + 1) T.q_law.f T.q_law.d ["_law_script"] (GH.runH 4 (b_law S.law_box S.law_right)) := GH.fnH_of (N := ["_law_script", "_law_k", "_law_box_here", "_law_turn"]) T.q_law.F sc_law fun cdv A outer s H hcd hr => by
  have C : Sc (v3 P w K mg base ["_law_script", "_law_k", "_law_box_here", "_law_turn"] "law" (top 27) T.q_law.f cdv A outer s H) ["_law_script", "_law_k", "_law_box_here", "_law_turn"] (defScope (top 27)) := ⟨rfl, rfl⟩
  exact (@GH.x4 _ _ _ _ _ _ (@GH.okS_for _ _ _ _ _ _ _ _ _ PassesOwn.never rfl (@GH.okI_rg1 _ _ _ _ _ _ _ (@Sc.gl _ _ _ _ C (by decide +kernel)) T.z_range (@GH.v7 _ _ _ _ _ _ _ _ _ _ opS_add (@GH.x7 _ _ _ _ y5) (@GH.okE_callB _ _ _ _ _ _ _ _ _ _ _ (@callS_min _ rfl) (@Sc.gl _ _ _ _ C (by decide +kernel)) T.z_min (by decide +kernel) (@GH.x3 _ _ _ _ _ _ (@GH.x7 _ _ _ _ y5) (@GH.x3 _ _ _ _ _ _ (GH.okE_lenS (@Sc.gl _ _ _ _ C (by decide +kernel)) T.z_len (@GH.x3 _ _ _ _ _ _ (@GH.Sg.v _ _ _ _ _ _ C 0 (by decide +kernel)) GH.x5 (@sE _ _ _ rfl)) (@sN _ _ _ _ rfl)) GH.x5 (@sE _ _ _ rfl)) (@sE _ _ _ rfl)) (by decide +kernel) (by decide +kernel) (@sN _ _ _ _ rfl))) (@s1 _ _ rfl)) (@GH.Sg.g _ _ _ _ _ C 1 (by decide +kernel)) (@GH.x4 _ _ _ _ _ _ (@GH.Sg.setC _ _ _ _ _ _ _ _ _ C 2 cells_body (by decide +kernel) (@GH.OkN.obj _ _ _ _ (@GH.okN_fo _ _ _ _ _ _ _ _ _ _ _ _ _ (@Sc.df _ _ _ _ C _ _ _ (by decide +kernel) T.q_law_box.m T.q_law_box.F.kp T.q_law_box.b (by decide +kernel)) g.law_box hr (@sN _ _ _ _ rfl) rfl (@GH.x3 _ _ _ _ _ _ (@GH.Sg.v _ _ _ _ _ _ C 0 (by decide +kernel)) (@GH.x3 _ _ _ _ _ _ (@GH.Sg.v _ _ _ _ _ _ C 1 (by decide +kernel)) GH.x5 (@sE _ _ _ rfl)) (@sE _ _ _ rfl)) (@GH.y4 _ _ _ (@GH.y4 _ _ _ GH.y9)))) rfl) (@GH.x4 _ _ _ _ _ _ (@GH.q9 _ _ _ _ _ _ _ _ _ (@GH.okT_not _ _ _ _ _ (@GH.v5 _ _ _ _ (@GH.okE_callB _ _ _ _ _ _ _ _ _ _ _ (@callS_all _ rfl) (@Sc.gl _ _ _ _ C (by decide +kernel)) T.z_all (by decide +kernel) (@GH.x3 _ _ _ _ _ _ (@GH.OkN.dat _ _ _ _ (GH.Sg.lc C [ ("_law_turn",3) ] rfl (by decide +kernel) (by decide +kernel) rfl (fun _ => rfl) (@GH.okI_rg1 _ _ _ _ _ _ _ (@Sc.gl _ _ _ _ C (by decide +kernel)) T.z_range (@GH.x7 _ _ _ _ y5) (@s1 _ _ rfl)) (fun s0 H0 C0 cl fp => (@GH.Sg.g _ _ _ _ _ C.blk 3 (by decide +kernel))) (fun s0 H0 C0 cl fp => GH.okTs_nil) (fun s0 H0 C0 cl fp => (@GH.q7 _ _ _ _ _ _ _ _ _ _ _ _ _ (@Sc.df _ _ _ _ C.blk _ _ _ (by decide +kernel) T.q_law_right.m T.q_law_right.F.kp T.q_law_right.b (by decide +kernel)) g.law_right hr (@sN _ _ _ _ rfl) rfl (@GH.x3 _ _ _ _ _ _ (@GH.Sg.v _ _ _ _ _ _ C.blk 2 (by decide +kernel)) GH.x5 (@sE _ _ _ rfl)) (@GH.y4 _ _ _ GH.y9))))) GH.x5 (@sE _ _ _ rfl)) (by decide +kernel) (by decide +kernel) (@sN _ _ _ _ rfl)) (fun _ => rfl))) (@GH.x4 _ _ _ _ _ _ (@GH.y8 _ _ _ _ _ (@GH.x7 _ _ _ _ w4)) GH.x9) GH.x9) GH.x9)) (fun _ => rfl)) (@GH.x4 _ _ _ _ _ _ (@GH.y8 _ _ _ _ _ (@GH.x7 _ _ _ _ w4)) GH.x9))
end
end K03
namespace K03
open PySem PySem.Spec L2 DL HL
section
variable {P : Program} {w : World} {K : PySem.W.Frag} {mg : Str → Option Value} {base : Heap} {Z : Ads} {T : Tab K w mg Z} {k : Nat} {S : Sems}
theorem good (TB : ∀ p ∈ csOf T, LamX.TabB base mg p.1 (ctOf Z p.2).C) : ∀ k, Good P w K mg base Z T k (sems k)
  | 0 => ⟨fnG_none, fnG_none, fnG_none, fnG_none, fnG_none, fnG_none, fnN_none, fnG_none, fnG_none, fnG_none, fnG_none, fnG_none, fnG_none, fnG_none, fnG_none, fnG_none, fnG_none, fnG_none, fnN_none, fnG_none, GH.j4, GH.j4, GH.j4⟩
  | k + 1 => ⟨ok_tupled (good TB k), ok_has_link (good TB k), ok_tags (good TB k), ok_law_take (good TB k), ok_law_of (good TB k), ok_law_name (good TB k), ok_law_names (good TB k), ok_law_named_setup (good TB k), ok_law_place (good TB k), ok_law_letters (good TB k), ok_law_deed (good TB k), ok_law_ended (good TB k), ok_law_lot (good TB k), ok_law_mixed (good TB k), ok_law_lists (good TB k), ok_law_same (good TB k), ok_law_event (good TB k), ok_law_named_script (good TB k), ok_law_box (good TB k), ok_law_rows (good TB k), ok_chains (good TB k), ok_law_right (good TB k), ok_law (good TB k)⟩
end
end K03
namespace K03
open PySem PySem.Spec L2 DL HL
theorem tab {l : PySem.W.OpenLaw} {w : World} {K : PySem.W.Frag} {h : Heap} {mg : Str → Option Value} (X : K.In h) (G : h.Ns mainGlobals mg)
    {f0 : Addr} {od0 an0 : Option Addr} {sl0 : Array (Option Value)} {oc0 kV0 dc0 pm0 cd0 ct0 : Value} (a0 : PySem.W.nsIn K mainGlobals "tupled" = some (some (.ref f0)))
    (l0 : K.lookup f0 = some ⟨oc0, od0, .func (PySem.W.fnOf "tupled" "tupled" (defArgs (top 1)) (defBody (top 1)) (defScope (top 1)) .none kV0 dc0 pm0 an0 cd0 ct0), sl0⟩) (c0 : PySem.W.codeIn K cd0 "tupled" = true) (k0 : PySem.W.keepIn K (.ref f0) = true)
    {f1 : Addr} {od1 an1 : Option Addr} {sl1 : Array (Option Value)} {oc1 kV1 dc1 pm1 cd1 ct1 : Value} (a1 : PySem.W.nsIn K mainGlobals "has_link" = some (some (.ref f1)))
    (l1 : K.lookup f1 = some ⟨oc1, od1, .func (PySem.W.fnOf "has_link" "has_link" (defArgs (top 4)) (defBody (top 4)) (defScope (top 4)) .none kV1 dc1 pm1 an1 cd1 ct1), sl1⟩) (c1 : PySem.W.codeIn K cd1 "has_link" = true) (k1 : PySem.W.keepIn K (.ref f1) = true)
    {f2 : Addr} {od2 an2 : Option Addr} {sl2 : Array (Option Value)} {oc2 kV2 dc2 pm2 cd2 ct2 : Value} (a2 : PySem.W.nsIn K mainGlobals "tags" = some (some (.ref f2)))
    (l2 : K.lookup f2 = some ⟨oc2, od2, .func (PySem.W.fnOf "tags" "tags" (defArgs (top 7)) (defBody (top 7)) (defScope (top 7)) .none kV2 dc2 pm2 an2 cd2 ct2), sl2⟩) (c2 : PySem.W.codeIn K cd2 "tags" = true) (k2 : PySem.W.keepIn K (.ref f2) = true)
    {f3 : Addr} {od3 an3 : Option Addr} {sl3 : Array (Option Value)} {oc3 kV3 dc3 pm3 cd3 ct3 : Value} (a3 : PySem.W.nsIn K mainGlobals "_law_take" = some (some (.ref f3)))
    (l3 : K.lookup f3 = some ⟨oc3, od3, .func (PySem.W.fnOf "_law_take" "_law_take" (defArgs (top 9)) (defBody (top 9)) (defScope (top 9)) .none kV3 dc3 pm3 an3 cd3 ct3), sl3⟩) (c3 : PySem.W.codeIn K cd3 "_law_take" = true) (k3 : PySem.W.keepIn K (.ref f3) = true)
    {f4 : Addr} {od4 an4 : Option Addr} {sl4 : Array (Option Value)} {oc4 kV4 dc4 pm4 cd4 ct4 : Value} (a4 : PySem.W.nsIn K mainGlobals "_law_of" = some (some (.ref f4)))
    (l4 : K.lookup f4 = some ⟨oc4, od4, .func (PySem.W.fnOf "_law_of" "_law_of" (defArgs (top 10)) (defBody (top 10)) (defScope (top 10)) .none kV4 dc4 pm4 an4 cd4 ct4), sl4⟩) (c4 : PySem.W.codeIn K cd4 "_law_of" = true) (k4 : PySem.W.keepIn K (.ref f4) = true)
    {f5 : Addr} {od5 an5 : Option Addr} {sl5 : Array (Option Value)} {oc5 kV5 dc5 pm5 cd5 ct5 : Value} (a5 : PySem.W.nsIn K mainGlobals "_law_name" = some (some (.ref f5)))
    (l5 : K.lookup f5 = some ⟨oc5, od5, .func (PySem.W.fnOf "_law_name" "_law_name" (defArgs (top 11)) (defBody (top 11)) (defScope (top 11)) .none kV5 dc5 pm5 an5 cd5 ct5), sl5⟩) (c5 : PySem.W.codeIn K cd5 "_law_name" = true) (k5 : PySem.W.keepIn K (.ref f5) = true)
    {f6 : Addr} {od6 an6 : Option Addr} {sl6 : Array (Option Value)} {oc6 kV6 dc6 pm6 cd6 ct6 : Value} (a6 : PySem.W.nsIn K mainGlobals "_law_names" = some (some (.ref f6)))
    (l6 : K.lookup f6 = some ⟨oc6, od6, .func (PySem.W.fnOf "_law_names" "_law_names" (defArgs (top 12)) (defBody (top 12)) (defScope (top 12)) .none kV6 dc6 pm6 an6 cd6 ct6), sl6⟩) (c6 : PySem.W.codeIn K cd6 "_law_names" = true) (k6 : PySem.W.keepIn K (.ref f6) = true)
    {f7 : Addr} {od7 an7 : Option Addr} {sl7 : Array (Option Value)} {oc7 kV7 dc7 pm7 cd7 ct7 : Value} (a7 : PySem.W.nsIn K mainGlobals "_law_named_setup" = some (some (.ref f7)))
    (l7 : K.lookup f7 = some ⟨oc7, od7, .func (PySem.W.fnOf "_law_named_setup" "_law_named_setup" (defArgs (top 13)) (defBody (top 13)) (defScope (top 13)) .none kV7 dc7 pm7 an7 cd7 ct7), sl7⟩) (c7 : PySem.W.codeIn K cd7 "_law_named_setup" = true) (k7 : PySem.W.keepIn K (.ref f7) = true)
    {f8 : Addr} {od8 an8 : Option Addr} {sl8 : Array (Option Value)} {oc8 kV8 dc8 pm8 cd8 ct8 : Value} (a8 : PySem.W.nsIn K mainGlobals "_law_place" = some (some (.ref f8)))
    (l8 : K.lookup f8 = some ⟨oc8, od8, .func (PySem.W.fnOf "_law_place" "_law_place" (defArgs (top 14)) (defBody (top 14)) (defScope (top 14)) .none kV8 dc8 pm8 an8 cd8 ct8), sl8⟩) (c8 : PySem.W.codeIn K cd8 "_law_place" = true) (k8 : PySem.W.keepIn K (.ref f8) = true)
    {f9 : Addr} {od9 an9 : Option Addr} {sl9 : Array (Option Value)} {oc9 kV9 dc9 pm9 cd9 ct9 : Value} (a9 : PySem.W.nsIn K mainGlobals "_law_letters" = some (some (.ref f9)))
    (l9 : K.lookup f9 = some ⟨oc9, od9, .func (PySem.W.fnOf "_law_letters" "_law_letters" (defArgs (top 15)) (defBody (top 15)) (defScope (top 15)) .none kV9 dc9 pm9 an9 cd9 ct9), sl9⟩) (c9 : PySem.W.codeIn K cd9 "_law_letters" = true) (k9 : PySem.W.keepIn K (.ref f9) = true)
    {f10 : Addr} {od10 an10 : Option Addr} {sl10 : Array (Option Value)} {oc10 kV10 dc10 pm10 cd10 ct10 : Value} (a10 : PySem.W.nsIn K mainGlobals "_law_deed" = some (some (.ref f10)))
    (l10 : K.lookup f10 = some ⟨oc10, od10, .func (PySem.W.fnOf "_law_deed" "_law_deed" (defArgs (top 16)) (defBody (top 16)) (defScope (top 16)) .none kV10 dc10 pm10 an10 cd10 ct10), sl10⟩) (c10 : PySem.W.codeIn K cd10 "_law_deed" = true) (k10 : PySem.W.keepIn K (.ref f10) = true)
    {f11 : Addr} {od11 an11 : Option Addr} {sl11 : Array (Option Value)} {oc11 kV11 dc11 pm11 cd11 ct11 : Value} (a11 : PySem.W.nsIn K mainGlobals "_law_ended" = some (some (.ref f11)))
    (l11 : K.lookup f11 = some ⟨oc11, od11, .func (PySem.W.fnOf "_law_ended" "_law_ended" (defArgs (top 17)) (defBody (top 17)) (defScope (top 17)) .none kV11 dc11 pm11 an11 cd11 ct11), sl11⟩) (c11 : PySem.W.codeIn K cd11 "_law_ended" = true) (k11 : PySem.W.keepIn K (.ref f11) = true)
    {f12 : Addr} {od12 an12 : Option Addr} {sl12 : Array (Option Value)} {oc12 kV12 dc12 pm12 cd12 ct12 : Value} (a12 : PySem.W.nsIn K mainGlobals "_law_lot" = some (some (.ref f12)))
    (l12 : K.lookup f12 = some ⟨oc12, od12, .func (PySem.W.fnOf "_law_lot" "_law_lot" (defArgs (top 18)) (defBody (top 18)) (defScope (top 18)) .none kV12 dc12 pm12 an12 cd12 ct12), sl12⟩) (c12 : PySem.W.codeIn K cd12 "_law_lot" = true) (k12 : PySem.W.keepIn K (.ref f12) = true)
    {f13 : Addr} {od13 an13 : Option Addr} {sl13 : Array (Option Value)} {oc13 kV13 dc13 pm13 cd13 ct13 : Value} (a13 : PySem.W.nsIn K mainGlobals "_law_mixed" = some (some (.ref f13)))
    (l13 : K.lookup f13 = some ⟨oc13, od13, .func (PySem.W.fnOf "_law_mixed" "_law_mixed" (defArgs (top 19)) (defBody (top 19)) (defScope (top 19)) .none kV13 dc13 pm13 an13 cd13 ct13), sl13⟩) (c13 : PySem.W.codeIn K cd13 "_law_mixed" = true) (k13 : PySem.W.keepIn K (.ref f13) = true)
    {f14 : Addr} {od14 an14 : Option Addr} {sl14 : Array (Option Value)} {oc14 kV14 dc14 pm14 cd14 ct14 : Value} (a14 : PySem.W.nsIn K mainGlobals "_law_lists" = some (some (.ref f14)))
    (l14 : K.lookup f14 = some ⟨oc14, od14, .func (PySem.W.fnOf "_law_lists" "_law_lists" (defArgs (top 20)) (defBody (top 20)) (defScope (top 20)) .none kV14 dc14 pm14 an14 cd14 ct14), sl14⟩) (c14 : PySem.W.codeIn K cd14 "_law_lists" = true) (k14 : PySem.W.keepIn K (.ref f14) = true)
    {f15 : Addr} {od15 an15 : Option Addr} {sl15 : Array (Option Value)} {oc15 kV15 dc15 pm15 cd15 ct15 : Value} (a15 : PySem.W.nsIn K mainGlobals "_law_same" = some (some (.ref f15)))
    (l15 : K.lookup f15 = some ⟨oc15, od15, .func (PySem.W.fnOf "_law_same" "_law_same" (defArgs (top 21)) (defBody (top 21)) (defScope (top 21)) .none kV15 dc15 pm15 an15 cd15 ct15), sl15⟩) (c15 : PySem.W.codeIn K cd15 "_law_same" = true) (k15 : PySem.W.keepIn K (.ref f15) = true)
    {f16 : Addr} {od16 an16 : Option Addr} {sl16 : Array (Option Value)} {oc16 kV16 dc16 pm16 cd16 ct16 : Value} (a16 : PySem.W.nsIn K mainGlobals "_law_event" = some (some (.ref f16)))
    (l16 : K.lookup f16 = some ⟨oc16, od16, .func (PySem.W.fnOf "_law_event" "_law_event" (defArgs (top 22)) (defBody (top 22)) (defScope (top 22)) .none kV16 dc16 pm16 an16 cd16 ct16), sl16⟩) (c16 : PySem.W.codeIn K cd16 "_law_event" = true) (k16 : PySem.W.keepIn K (.ref f16) = true)
    {f17 : Addr} {od17 an17 : Option Addr} {sl17 : Array (Option Value)} {oc17 kV17 dc17 pm17 cd17 ct17 : Value} (a17 : PySem.W.nsIn K mainGlobals "_law_named_script" = some (some (.ref f17)))
    (l17 : K.lookup f17 = some ⟨oc17, od17, .func (PySem.W.fnOf "_law_named_script" "_law_named_script" (defArgs (top 23)) (defBody (top 23)) (defScope (top 23)) .none kV17 dc17 pm17 an17 cd17 ct17), sl17⟩) (c17 : PySem.W.codeIn K cd17 "_law_named_script" = true) (k17 : PySem.W.keepIn K (.ref f17) = true)
    {f18 : Addr} {od18 an18 : Option Addr} {sl18 : Array (Option Value)} {oc18 kV18 dc18 pm18 cd18 ct18 : Value} (a18 : PySem.W.nsIn K mainGlobals "_law_box" = some (some (.ref f18)))
    (l18 : K.lookup f18 = some ⟨oc18, od18, .func (PySem.W.fnOf "_law_box" "_law_box" (defArgs (top 24)) (defBody (top 24)) (defScope (top 24)) .none kV18 dc18 pm18 an18 cd18 ct18), sl18⟩) (c18 : PySem.W.codeIn K cd18 "_law_box" = true) (k18 : PySem.W.keepIn K (.ref f18) = true)
    {f19 : Addr} {od19 an19 : Option Addr} {sl19 : Array (Option Value)} {oc19 kV19 dc19 pm19 cd19 ct19 : Value} (a19 : PySem.W.nsIn K mainGlobals "_law_rows" = some (some (.ref f19)))
    (l19 : K.lookup f19 = some ⟨oc19, od19, .func (PySem.W.fnOf "_law_rows" "_law_rows" (defArgs (top 25)) (defBody (top 25)) (defScope (top 25)) .none kV19 dc19 pm19 an19 cd19 ct19), sl19⟩) (c19 : PySem.W.codeIn K cd19 "_law_rows" = true) (k19 : PySem.W.keepIn K (.ref f19) = true)
    {f20 : Addr} {od20 an20 : Option Addr} {sl20 : Array (Option Value)} {oc20 kV20 dc20 pm20 cd20 ct20 : Value} (a20 : PySem.W.nsIn K mainGlobals "chains" = some (some (.ref f20)))
    (l20 : K.lookup f20 = some ⟨oc20, od20, .func (PySem.W.fnOf "chains" "chains" (defArgs (top 6)) (defBody (top 6)) (defScope (top 6)) .none kV20 dc20 pm20 an20 cd20 ct20), sl20⟩) (c20 : PySem.W.codeIn K cd20 "chains" = true) (k20 : PySem.W.keepIn K (.ref f20) = true)
    {f21 : Addr} {od21 an21 : Option Addr} {sl21 : Array (Option Value)} {oc21 kV21 dc21 pm21 cd21 ct21 : Value} (a21 : PySem.W.nsIn K mainGlobals "_law_right" = some (some (.ref f21)))
    (l21 : K.lookup f21 = some ⟨oc21, od21, .func (PySem.W.fnOf "_law_right" "_law_right" (defArgs (top 26)) (defBody (top 26)) (defScope (top 26)) .none kV21 dc21 pm21 an21 cd21 ct21), sl21⟩) (c21 : PySem.W.codeIn K cd21 "_law_right" = true) (k21 : PySem.W.keepIn K (.ref f21) = true)
    {f22 : Addr} {od22 an22 : Option Addr} {sl22 : Array (Option Value)} {oc22 kV22 dc22 pm22 cd22 ct22 : Value} (a22 : PySem.W.nsIn K mainGlobals "law" = some (some (.ref f22)))
    (l22 : K.lookup f22 = some ⟨oc22, od22, .func (PySem.W.fnOf "law" "law" (defArgs (top 27)) (defBody (top 27)) (defScope (top 27)) .none kV22 dc22 pm22 an22 cd22 ct22), sl22⟩) (c22 : PySem.W.codeIn K cd22 "law" = true) (k22 : PySem.W.keepIn K (.ref f22) = true)
    (z0 : PySem.W.nsIn K mainGlobals "abs" = some none)
    (z1 : PySem.W.nsIn K mainGlobals "all" = some none)
    (z2 : PySem.W.nsIn K mainGlobals "any" = some none)
    (z3 : PySem.W.nsIn K mainGlobals "bool" = some none)
    (z4 : PySem.W.nsIn K mainGlobals "int" = some none)
    (z5 : PySem.W.nsIn K mainGlobals "isinstance" = some none)
    (z6 : PySem.W.nsIn K mainGlobals "len" = some none)
    (z7 : PySem.W.nsIn K mainGlobals "list" = some none)
    (z8 : PySem.W.nsIn K mainGlobals "min" = some none)
    (z9 : PySem.W.nsIn K mainGlobals "range" = some none)
    (z10 : PySem.W.nsIn K mainGlobals "repr" = some none)
    (z11 : PySem.W.nsIn K mainGlobals "sorted" = some none)
    (z12 : PySem.W.nsIn K mainGlobals "str" = some none)
    (z13 : PySem.W.nsIn K mainGlobals "tuple" = some none)
    (z14 : PySem.W.nsIn K mainGlobals "zip" = some none)
    {ga0 : Addr} {god0 : Option Addr} {gi0 : Array Value} {gn0 : Nat} {gs0 : Array (Option Value)} (g0 : PySem.W.nsIn K mainGlobals "LINKS" = some (some (.ref ga0))) (gl0 : K.lookup ga0 = some ⟨.type "tuple", god0, .seq gi0 gn0, gs0⟩) (gz0 : gi0.size ≤ sizeLine) (gv0 : Vals ([Str.ofString "hard", Str.ofString "link"].map V.str) gi0.toList)
    {fa : Addr} (hfa : mg "law" = some (.ref fa)) (n : Nat) : GH.LawH l w K n "_law_script" mg fa h (sems n).law [] := by
  have e := hfa.symm.trans (PySem.W.mg_of X G a22)
  cases e
  have F0 := fun_mk (st := (top 1)) l0 c0 k0
  have F1 := fun_mk (st := (top 4)) l1 c1 k1
  have F2 := fun_mk (st := (top 7)) l2 c2 k2
  have F3 := fun_mk (st := (top 9)) l3 c3 k3
  have F4 := fun_mk (st := (top 10)) l4 c4 k4
  have F5 := fun_mk (st := (top 11)) l5 c5 k5
  have F6 := fun_mk (st := (top 12)) l6 c6 k6
  have F7 := fun_mk (st := (top 13)) l7 c7 k7
  have F8 := fun_mk (st := (top 14)) l8 c8 k8
  have F9 := fun_mk (st := (top 15)) l9 c9 k9
  have F10 := fun_mk (st := (top 16)) l10 c10 k10
  have F11 := fun_mk (st := (top 17)) l11 c11 k11
  have F12 := fun_mk (st := (top 18)) l12 c12 k12
  have F13 := fun_mk (st := (top 19)) l13 c13 k13
  have F14 := fun_mk (st := (top 20)) l14 c14 k14
  have F15 := fun_mk (st := (top 21)) l15 c15 k15
  have F16 := fun_mk (st := (top 22)) l16 c16 k16
  have F17 := fun_mk (st := (top 23)) l17 c17 k17
  have F18 := fun_mk (st := (top 24)) l18 c18 k18
  have F19 := fun_mk (st := (top 25)) l19 c19 k19
  have F20 := fun_mk (st := (top 6)) l20 c20 k20
  have F21 := fun_mk (st := (top 26)) l21 c21 k21
  have F22 := fun_mk (st := (top 27)) l22 c22 k22
  let Z : Ads := ⟨⟩
  have T : ∃ T : Tab K w mg Z, T.q_law.f = f22 ∧ T.q_law.d = PySem.W.fnOf "law" "law" (defArgs (top 27)) (defBody (top 27)) (defScope (top 27)) .none kV22 dc22 pm22 an22 cd22 ct22 ∧ csOf T = [] := ⟨⟨⟨f0, _, F0, (F0.binds (ps := ["value"]) fun _ _ _ _ _ _ us hl => match us, hl with | [_], _ => rfl), PySem.W.mg_of X G a0⟩, ⟨f1, _, F1, (F1.binds (ps := ["request"]) fun _ _ _ _ _ _ us hl => match us, hl with | [_], _ => rfl), PySem.W.mg_of X G a1⟩, ⟨f2, _, F2, (F2.binds (ps := ["script"]) fun _ _ _ _ _ _ us hl => match us, hl with | [_], _ => rfl), PySem.W.mg_of X G a2⟩, ⟨f3, _, F3, (F3.binds (ps := ["_law_box_here", "_law_below"]) fun _ _ _ _ _ _ us hl => match us, hl with | [_, _], _ => rfl), PySem.W.mg_of X G a3⟩, ⟨f4, _, F4, (F4.binds (ps := ["_law_box_here", "_law_some"]) fun _ _ _ _ _ _ us hl => match us, hl with | [_, _], _ => rfl), PySem.W.mg_of X G a4⟩, ⟨f5, _, F5, (F5.binds (ps := ["_law_box_here"]) fun _ _ _ _ _ _ us hl => match us, hl with | [_], _ => rfl), PySem.W.mg_of X G a5⟩, ⟨f6, _, F6, (F6.binds (ps := ["_law_box_here", "_law_many_so"]) fun _ _ _ _ _ _ us hl => match us, hl with | [_, _], _ => rfl), PySem.W.mg_of X G a6⟩, ⟨f7, _, F7, (F7.binds (ps := ["_law_box_here", "_law_least_so"]) fun _ _ _ _ _ _ us hl => match us, hl with | [_, _], _ => rfl), PySem.W.mg_of X G a7⟩, ⟨f8, _, F8, (F8.binds (ps := ["_law_box_here", "_law_setup_so"]) fun _ _ _ _ _ _ us hl => match us, hl with | [_, _], _ => rfl), PySem.W.mg_of X G a8⟩, ⟨f9, _, F9, (F9.binds (ps := ["_law_box_here", "_law_most_so"]) fun _ _ _ _ _ _ us hl => match us, hl with | [_, _], _ => rfl), PySem.W.mg_of X G a9⟩, ⟨f10, _, F10, (F10.binds (ps := ["_law_box_here", "_law_setup_so", "_law_gone"]) fun _ _ _ _ _ _ us hl => match us, hl with | [_, _, _], _ => rfl), PySem.W.mg_of X G a10⟩, ⟨f11, _, F11, (F11.binds (ps := ["_law_batch"]) fun _ _ _ _ _ _ us hl => match us, hl with | [_], _ => rfl), PySem.W.mg_of X G a11⟩, ⟨f12, _, F12, (F12.binds (ps := ["_law_box_here", "_law_setup_so", "_law_tags_so", "_law_gone", "_law_many_so"]) fun _ _ _ _ _ _ us hl => match us, hl with | [_, _, _, _, _], _ => rfl), PySem.W.mg_of X G a12⟩, ⟨f13, _, F13, (F13.binds (ps := ["_law_box_here", "_law_matter"]) fun _ _ _ _ _ _ us hl => match us, hl with | [_, _], _ => rfl), PySem.W.mg_of X G a13⟩, ⟨f14, _, F14, (F14.binds (ps := ["_law_matter"]) fun _ _ _ _ _ _ us hl => match us, hl with | [_], _ => rfl), PySem.W.mg_of X G a14⟩, ⟨f15, _, F15, (F15.binds (ps := ["_law_found", "_law_due"]) fun _ _ _ _ _ _ us hl => match us, hl with | [_, _], _ => rfl), PySem.W.mg_of X G a15⟩, ⟨f16, _, F16, (F16.binds (ps := ["_law_box_here", "_law_setup_so", "_law_tags_so", "_law_gone", "_law_clock_so"]) fun _ _ _ _ _ _ us hl => match us, hl with | [_, _, _, _, _], _ => rfl), PySem.W.mg_of X G a16⟩, ⟨f17, _, F17, (F17.binds (ps := ["_law_box_here", "_law_setup_so", "_law_many_so"]) fun _ _ _ _ _ _ us hl => match us, hl with | [_, _, _], _ => rfl), PySem.W.mg_of X G a17⟩, ⟨f18, _, F18, (F18.binds (ps := ["_law_script", "_law_k"]) fun _ _ _ _ _ _ us hl => match us, hl with | [_, _], _ => rfl), PySem.W.mg_of X G a18⟩, ⟨f19, _, F19, (F19.binds (ps := ["_law_batch"]) fun _ _ _ _ _ _ us hl => match us, hl with | [_], _ => rfl), PySem.W.mg_of X G a19⟩, ⟨f20, _, F20, (F20.binds (ps := ["lot"]) fun _ _ _ _ _ _ us hl => match us, hl with | [_], _ => rfl), PySem.W.mg_of X G a20⟩, fun s u _ => .of_eq rfl, ⟨f21, _, F21, (F21.binds (ps := ["_law_box_here"]) fun _ _ _ _ _ _ us hl => match us, hl with | [_], _ => rfl), PySem.W.mg_of X G a21⟩, ⟨f22, _, F22, (F22.binds (ps := ["_law_script"]) fun _ _ _ _ _ _ us hl => match us, hl with | [_], _ => rfl), PySem.W.mg_of X G a22⟩, PySem.W.mg_none_of X G z0, PySem.W.mg_none_of X G z1, PySem.W.mg_none_of X G z2, PySem.W.mg_none_of X G z3, PySem.W.mg_none_of X G z4, PySem.W.mg_none_of X G z5, PySem.W.mg_none_of X G z6, PySem.W.mg_none_of X G z7, PySem.W.mg_none_of X G z8, PySem.W.mg_none_of X G z9, PySem.W.mg_none_of X G z10, PySem.W.mg_none_of X G z11, PySem.W.mg_none_of X G z12, PySem.W.mg_none_of X G z13, PySem.W.mg_none_of X G z14, tup_of (PySem.W.mg_of X G g0) gl0 gz0 gv0⟩, rfl, rfl, rfl⟩
  obtain ⟨T, e1, e2, e3⟩ := T
  refine ⟨PySem.W.fnOf "law" "law" (defArgs (top 27)) (defBody (top 27)) (defScope (top 27)) .none kV22 dc22 pm22 an22 cd22 ct22, ctOf Z, [], ⟨(fun _ hf => nomatch hf), (fun _ hf => nomatch hf), (fun _ hf => nomatch hf), List.Pairwise.nil, (fun _ hf => nomatch hf)⟩, rfl, fun s u => .of_eq rfl, fun base TB => ?_⟩
  have g := (good (P := l.prog) (w := w) (base := base) (T := T) (by rw [e3]; exact TB) n).law
  rw [e1, e2] at g
  exact g
end K03
namespace HL
open PySem PySem.Spec L2 DL
def kv_law_shapes : List (Str × D) := [(Str.ofString "nop", PyData.str (Str.ofString "")), (Str.ofString "work", PyData.str (Str.ofString "b")), (Str.ofString "read", PyData.str (Str.ofString "wm")), (Str.ofString "reads", PyData.str (Str.ofString "wm")), (Str.ofString "write", PyData.str (Str.ofString "wt")), (Str.ofString "shut", PyData.str (Str.ofString "w")), (Str.ofString "timeout", PyData.str (Str.ofString "p")), (Str.ofString "linktimeout", PyData.str (Str.ofString "p")), (Str.ofString "cancel", PyData.str (Str.ofString "n")), (Str.ofString "cancelall", PyData.str (Str.ofString "")), (Str.ofString "update", PyData.str (Str.ofString "po"))]
end HL
namespace HL
open PySem PySem.Spec L2 DL
def woA := (And.intro (And.intro (And.intro (And.intro (And.intro (And.intro (And.intro (And.intro @y6 (And.intro @kEx_ap @wo_preEx)) (And.intro @wo_preDc (And.intro @here_dc @wo_preSl))) (And.intro (And.intro @here_sl (And.intro @here_ex @hereB_some)) (And.intro @post_ex (And.intro @post_sl @postD_ex)))) (And.intro (And.intro (And.intro @postR_ex (And.intro @postD_sl @postR_sl)) (And.intro @view_d (And.intro @view_own @view_scr))) (And.intro (And.intro @viewD_d (And.intro @viewD_scr @viewR_d)) (And.intro (And.intro @opd1_ex @kV_ap) (And.intro @opd1_sl' @kT2_ap))))) (And.intro (And.intro (And.intro (And.intro @kT3_ap (And.intro @two_ex' @kS2_ap)) (And.intro @kS3_ap (And.intro @two_sl @kBin_ap))) (And.intro (And.intro @wo_mBin (And.intro @kTb_ap @wo_tBin)) (And.intro (And.intro @wo_tBool @kNot_ap) (And.intro @wo_mNot @kNotV_ap)))) (And.intro (And.intro (And.intro @wo_mNotV (And.intro @kNeg_ap @wo_mNeg)) (And.intro @kAnd_ap (And.intro @wo_mAnd @kOr_ap))) (And.intro (And.intro @wo_mOr (And.intro @ktAnd_ap @wo_tAndM)) (And.intro (And.intro @ktOr_ap @wo_tOrM) (And.intro @kIf_ap @wo_mIf)))))) (And.intro (And.intro (And.intro (And.intro (And.intro @wo_sIf (And.intro @kB_ap @kTru_ap)) (And.intro @wo_mTru (And.intro @kVB_ap @kIsi_ap))) (And.intro (And.intro @wo_mIsi (And.intro @kCh_ap @kCh2_ap)) (And.intro (And.intro @kCh3_ap @wo_mCh) (And.intro @kPart_ap @wo_partN)))) (And.intro (And.intro (And.intro @wo_partS (And.intro @kCutF_ap @kCut3_ap)) (And.intro @kCut2_ap (And.intro @kCut1_ap @wo_mCut))) (And.intro (And.intro @kRev_l (And.intro @kRev_t @wo_mRev2)) (And.intro (And.intro @kACons_ap @kACons2_ap) (And.intro @wo_aNil @wo_aCons))))) (And.intro (And.intro (And.intro (And.intro @kTup_ap (And.intro @wo_mTup @kLst_ap)) (And.intro @wo_nLst (And.intro @kListOf_ap @wo_listOf))) (And.intro (And.intro @seqB_l (And.intro @seqB_t @kW_ap)) (And.intro (And.intro @kSeqB_ap @wo_nList) (And.intro @kPre_ap @kPre2_ap)))) (And.intro (And.intro (And.intro @wo_preNil (And.intro @wo_preCons @kPost_ap)) (And.intro @kPost2_ap (And.intro @wo_postNil @wo_postCons))) (And.intro (And.intro @kCall2_ap (And.intro @kCall_ap @wo_mCall)) (And.intro (And.intro @kArgs_ap @kArgs2_ap) (And.intro @wo_argsNil @wo_argsCons))))))) (And.intro (And.intro (And.intro (And.intro (And.intro (And.intro @argSl_dc (And.intro @argSl_ex @slB_some)) (And.intro @argSl_sl (And.intro @kFn3_ap @kFn2_ap))) (And.intro (And.intro @kFn_ap (And.intro @wo_mFn @wo_nFn)) (And.intro @kSeq_nx (And.intro @kSeq_ret @kSeq_retN)))) (And.intro (And.intro (And.intro @kSeq_bk (And.intro @kSeq_ct @wo_sSeq)) (And.intro @wo_sNext (And.intro @kExpr_ap @wo_sExpr))) (And.intro (And.intro @kRet_ap (And.intro @wo_sRet @kRetN_ap)) (And.intro (And.intro @wo_sRetN @kRetO_ap) (And.intro @wo_sRetO @kSet_ap))))) (And.intro (And.intro (And.intro (And.intro @wo_sSet (And.intro @kOwn_ap @wo_sOwn)) (And.intro @kN_ap (And.intro @kUnp_ap @wo_sUnp))) (And.intro (And.intro @kPar_ap (And.intro @wo_sPar @kAvs2_ap)) (And.intro (And.intro @kAvD_ap @kAvN_ap) (And.intro @wo_avNil @wo_avD)))) (And.intro (And.intro (And.intro @wo_avN (And.intro @ownB_none @ownB_d)) (And.intro @ownB_scr (And.intro @ownB_own @datB_d))) (And.intro (And.intro @notOwn_eq (And.intro @kPut4_ap @kPut3_ap)) (And.intro (And.intro @kPut2_ap @kPut_ap) (And.intro @wo_sPut @kApp2_ap)))))) (And.intro (And.intro (And.intro (And.intro (And.intro @kApp_ap (And.intro @wo_mAppend @kPop4_ap)) (And.intro @kPop3_ap (And.intro @kPop2_ap @kPop_ap))) (And.intro (And.intro @wo_mPop (And.intro @kIns3_ap @kIns2_ap)) (And.intro (And.intro @kIns_ap @wo_mInsert) (And.intro @kAug3_ap @kAug2_ap)))) (And.intro (And.intro (And.intro @kAug_ap (And.intro @wo_sAug @kExt2_ap)) (And.intro @kExt_ap (And.intro @wo_mExtend @kPe3_ap))) (And.intro (And.intro @kPe2_ap (And.intro @kPe_ap @wo_putE)) (And.intro (And.intro @kP3_ap @kP2_ap) (And.intro @wo_sPut2 @kFnS_ap))))) (And.intro (And.intro (And.intro (And.intro @wo_mFnS (And.intro @kDix_ap @wo_mDix)) (And.intro @kDGet2_ap (And.intro @kDGet_ap @dctB_dct))) (And.intro (And.intro @wo_mDGet (And.intro @kKGet_ap @wo_mKGet)) (And.intro (And.intro @canB_none @canB_d) (And.intro @canB_scr @wo_bindNm)))) (And.intro (And.intro (And.intro @wo_bindTup (And.intro @kBs_ap @wo_bindsNil)) (And.intro @wo_bindsCons (And.intro @kFor_ap @wo_sFor))) (And.intro (And.intro @kTurn_nx (And.intro @kTurn_ct @kTurn_bk)) (And.intro (And.intro @kTurn_ret @kTurn_retN) (And.intro @kBd_ap @wo_forNil)))))))) (And.intro (And.intro (And.intro (And.intro (And.intro (And.intro (And.intro @kLc2_ap (And.intro @kLc_ap @wo_nLc)) (And.intro @wo_lcNil (And.intro @kLcM_ap @kLcT_ap))) (And.intro (And.intro @kLcB_ap (And.intro @wo_tTrue @itB_l)) (And.intro @itB_t (And.intro @itB_s @kItD_ap)))) (And.intro (And.intro (And.intro @wo_iData (And.intro @kRg_ap @wo_iRange1)) (And.intro @kRg3_ap (And.intro @kRg2_ap @wo_iRange2))) (And.intro (And.intro @zipB_l (And.intro @zipB_t @kZip_ap)) (And.intro (And.intro @wo_iZip @enB_l) (And.intro @enB_t @kEnum_ap))))) (And.intro (And.intro (And.intro (And.intro @wo_iEnum2 (And.intro @kTxt3_ap @kTxt3_ap')) (And.intro @kTxt2_ap (And.intro @kTxt_ap @wo_opdT))) (And.intro (And.intro @wo_opdX (And.intro @kSortSet_ap @wo_nSortSet)) (And.intro (And.intro @kLenSet_ap @wo_mLenSet) (And.intro @kJoin2_ap @kJoin_ap)))) (And.intro (And.intro (And.intro @wo_mJoin (And.intro @kSplit2_ap @kSplit_ap)) (And.intro @wo_nSplit (And.intro @kUpper_ap @wo_mUpper))) (And.intro (And.intro @kSortL3_ap (And.intro @kSortL_ap @wo_nSort)) (And.intro (And.intro @kRun2_ap @kRun_ret) (And.intro @kRun_retN @kRun_nx)))))) (And.intro (And.intro (And.intro (And.intro (And.intro @wo_runF (And.intro @kRunN2_ap @kRunN_retN)) (And.intro @wo_runN (And.intro @outs_nil @kOut2_ap))) (And.intro (And.intro @kOut_ap (And.intro @wo_outOwn @wo_outD)) (And.intro (And.intro @wo_outScr @wo_mCst) (And.intro @wo_mVar @rvB_d)))) (And.intro (And.intro (And.intro @rvB_own (And.intro @wo_rVar @y7)) (And.intro @isT_non_int (And.intro @isT_non_bool @isT_non_str))) (And.intro (And.intro @isT_non_list (And.intro @isT_non_tuple @isT_bl_int)) (And.intro (And.intro @isT_bl_bool @isT_bl_str) (And.intro @isT_bl_list @isT_bl_tuple))))) (And.intro (And.intro (And.intro (And.intro @isT_int_int (And.intro @isT_int_bool @isT_int_str)) (And.intro @isT_int_list (And.intro @isT_int_tuple @isT_str_int))) (And.intro (And.intro @isT_str_bool (And.intro @isT_str_str @isT_str_list)) (And.intro (And.intro @isT_str_tuple @isT_lst_int) (And.intro @isT_lst_bool @isT_lst_str)))) (And.intro (And.intro (And.intro @isT_lst_list (And.intro @isT_lst_tuple @isT_tup_int)) (And.intro @isT_tup_bool (And.intro @isT_tup_str @isT_tup_list))) (And.intro (And.intro @isT_tup_tuple (And.intro @isT2_list_tuple_non @isT2_list_tuple_bl)) (And.intro (And.intro @isT2_list_tuple_int @isT2_list_tuple_str) (And.intro @isT2_list_tuple_lst @isT2_list_tuple_tup))))))) (And.intro (And.intro (And.intro (And.intro (And.intro (And.intro @isT2_tuple_list_non (And.intro @isT2_tuple_list_bl @isT2_tuple_list_int)) (And.intro @isT2_tuple_list_str (And.intro @isT2_tuple_list_lst @isT2_tuple_list_tup))) (And.intro (And.intro @isT2_bool_str_non (And.intro @isT2_bool_str_bl @isT2_bool_str_int)) (And.intro (And.intro @isT2_bool_str_str @isT2_bool_str_lst) (And.intro @isT2_bool_str_tup @isT2_int_str_non)))) (And.intro (And.intro (And.intro @isT2_int_str_bl (And.intro @isT2_int_str_int @isT2_int_str_str)) (And.intro @isT2_int_str_lst (And.intro @isT2_int_str_tup @wo_fAddI))) (And.intro (And.intro @wo_fAddS (And.intro @wo_fAddT @wo_fAddL)) (And.intro (And.intro @wo_fSub @wo_fMul) (And.intro @wo_fMul2 @wo_fMul2L))))) (And.intro (And.intro (And.intro (And.intro @wo_fMul2S (And.intro @wo_fMod @wo_fFdiv)) (And.intro @wo_fPow (And.intro @wo_fEqI @wo_fNeI))) (And.intro (And.intro @wo_fEqS (And.intro @wo_fNeS @wo_fEqB)) (And.intro (And.intro @wo_fNeB @wo_fLtI) (And.intro @wo_fLtS @wo_fLe)))) (And.intro (And.intro (And.intro @wo_fGt (And.intro @wo_fGe @wo_fIsN)) (And.intro @wo_fIsNotN (And.intro @wo_fIsB @wo_fIsNotB))) (And.intro (And.intro @isNone_non (And.intro @isNone_bool @isNone_int)) (And.intro (And.intro @isNone_str @isNone_list) (And.intro @isNone_tuple @kBo_ap)))))) (And.intro (And.intro (And.intro (And.intro (And.intro @kBn_ap (And.intro @wo_fIn @wo_fNotIn)) (And.intro @wo_inL (And.intro @wo_inT @wo_inS1))) (And.intro (And.intro @wo_fIxL (And.intro @wo_fIxT @kSg_ap)) (And.intro (And.intro @wo_fIxS @wo_fLenL) (And.intro @wo_fLenT @wo_fLenS)))) (And.intro (And.intro (And.intro @wo_fIntI (And.intro @wo_fIntB @wo_fAbs)) (And.intro @wo_fMin (And.intro @wo_fMax @wo_fTupleL))) (And.intro (And.intro @wo_fTupleT (And.intro @kAll_ap @wo_fAll)) (And.intro (And.intro @kAny_ap @wo_fAny) (And.intro @wo_trN @wo_trB))))) (And.intro (And.intro (And.intro (And.intro @wo_trI (And.intro @wo_trS @wo_trL)) (And.intro @wo_trT (And.intro @wo_fCutL @wo_fCutT))) (And.intro (And.intro @wo_fCutS (And.intro @wo_fStr @wo_gAdd)) (And.intro (And.intro @wo_gSub @textsOf_nil) (And.intro @kTx_ap @wo_txC)))) (And.intro (And.intro (And.intro @flatD_str (And.intro @flatD_int @flatD_bool)) (And.intro @flatD_none (And.intro @eqv_str @sizeLine_val))) (And.intro (And.intro @at3 (And.intro @at4 @ofString_beq)) (And.intro (And.intro @DL.at0 @DL.at1) (And.intro @DL.at2 @DL.ofString_inj)))))))))
end HL
namespace HL
open PySem PySem.Spec L2 DL
/-- the source of draws, with at most t of them behind it -/
def Box (t : Nat) (b : List D) : Prop := ∃ b0 b1 b2 : Int, b = [.int b0, .int b1, .int b2] ∧ 0 ≤ b0 ∧ 0 ≤ b2 ∧ b2 ≤ t
theorem Box.mono {t u : Nat} {b : List D} (h : Box t b) (hu : t ≤ u) : Box u b := by
  obtain ⟨b0, b1, b2, e, h0, h1, h2⟩ := h
  exact ⟨b0, b1, b2, e, h0, h1, by omega⟩
def TakeOk (F : FSem) : Prop := ∀ (t : Nat) (b : List D) (n : Int) (Q : D × List Sl → Prop), Box t b → t ≤ 1000000000 → 0 < n → n < 1000000000 →
  (∀ v b', Box (t + 1) b' → 0 ≤ v → v < n → Q (.int v, [.own b', .d (.int n)])) → wo (F [.own b, .d (.int n)]) Q
theorem mulOk_r {x y : Int} (h : -(2 ^ 64) < y ∧ y < 2 ^ 64) : mulOk x y = true := by
  unfold mulOk
  simp only [Bool.or_eq_true, Bool.and_eq_true, decide_eq_true_eq]
  exact .inr h
theorem mulOk_l {x y : Int} (h : -(2 ^ 64) < x ∧ x < 2 ^ 64) : mulOk x y = true := by
  unfold mulOk
  simp only [Bool.or_eq_true, Bool.and_eq_true, decide_eq_true_eq]
  exact .inl h
theorem take_ok : TakeOk r_law_take := by
  intro t b n Q hb ht hn hn2 hq
  obtain ⟨b0, b1, b2, rfl, h0, h1, h2⟩ := hb
  have hx : n < 1073741824 := by omega
  by_cases hp : 0 < b0
  · unfold r_law_take b_law_take
    simp [woA, given, gv1, back, bk1, pad, envOf, ioOk, setsE, Tgs.len, Tg.ix, Tgs.ix, wipeE, restore, hp, hn, hx, ixN_in]
    exact hq _ _ ⟨_, _, _, rfl, Int.ediv_nonneg h0 (Int.le_of_lt hn), h1, by omega⟩ (Int.emod_nonneg _ (by omega)) (Int.emod_lt_of_pos _ hn)
  · have : b0 = 0 := by omega
    subst this
    unfold r_law_take b_law_take
    have m1 : ∀ x : Int, mulOk x (39373 + (b2 + 1)) = true := fun x => mulOk_r (by omega)
    have m2 : ∀ x y : Int, mulOk x (y % 40009 + 7) = true := fun x y => mulOk_r (by omega)
    have m3 : ∀ x : Int, mulOk x 48271 = true := fun x => mulOk_r (by omega)
    have m4 : ∀ x : Int, mulOk 48271 x = true := fun x => mulOk_l (by omega)
    simp [woA, given, gv1, back, bk1, pad, envOf, ioOk, setsE, Tgs.len, Tg.ix, Tgs.ix, wipeE, restore, hp, hn, hx, ixN_in, m1, m2, m3, m4]
    exact hq _ _ ⟨_, _, _, rfl, Int.le_refl 0, by omega, by omega⟩ (Int.emod_nonneg _ (by omega)) (Int.emod_lt_of_pos _ hn)
def OfOk (F : FSem) : Prop := ∀ (t : Nat) (b : List D) (d : D) (xs : List D) (Q : D × List Sl → Prop), Box t b → t ≤ 1000000000 → (d = .list xs ∨ d = .tuple xs) → 0 < xs.length → xs.length < 1000000 →
  (∀ v b', Box (t + 1) b' → v ∈ xs → Q (v, [.own b', .d d])) → wo (F [.own b, .d d]) Q
theorem of_ok {T : FSem} (hT : TakeOk T) : OfOk (r_law_of T) := by
  intro t b d xs Q hb ht hd hl0 hl hq
  unfold r_law_of b_law_of
  rcases hd with rfl | rfl
  · simp [woA, given, gv1, back, bk1, pad, envOf, ioOk, setsE, Tgs.len, Tg.ix, Tgs.ix, wipeE, restore]
    refine hT t b _ _ hb ht (by omega) (by omega) fun v b' hb' h0 h1 => ?_
    obtain ⟨y, e, _, hy⟩ := atI_in h0 h1
    simp [woA, given, gv1, back, bk1, pad, envOf, ioOk, setsE, Tgs.len, Tg.ix, Tgs.ix, wipeE, restore, e]
    exact hq _ _ hb' hy
  · simp [woA, given, gv1, back, bk1, pad, envOf, ioOk, setsE, Tgs.len, Tg.ix, Tgs.ix, wipeE, restore]
    refine hT t b _ _ hb ht (by omega) (by omega) fun v b' hb' h0 h1 => ?_
    obtain ⟨y, e, _, hy⟩ := atI_in h0 h1
    simp [woA, given, gv1, back, bk1, pad, envOf, ioOk, setsE, Tgs.len, Tg.ix, Tgs.ix, wipeE, restore, e]
    exact hq _ _ hb' hy
def OfSOk (F : FSem) : Prop := ∀ (t : Nat) (b : List D) (z : Str) (Q : D × List Sl → Prop), Box t b → t ≤ 1000000000 → 0 < z.length → z.length ≤ 1000 →
  (∀ c b', Box (t + 1) b' → c ∈ z.cps.toList → Q (.str ⟨#[c]⟩, [.own b', .d (.str z)])) → wo (F [.own b, .d (.str z)]) Q
theorem ofS_ok {T : FSem} (hT : TakeOk T) : OfSOk (r_law_of T) := by
  intro t b z Q hb ht h0 h1 hq
  have hs : z.length ≤ 16777216 := by omega
  unfold r_law_of b_law_of
  simp [woA, given, gv1, back, bk1, pad, envOf, ioOk, setsE, Tgs.len, Tg.ix, Tgs.ix, wipeE, restore, hs]
  refine hT t b _ _ hb ht (by omega) (by omega) fun v b' hb' h0 h1 => ?_
  obtain ⟨y, e, _, hy⟩ := atI_in (ds := z.cps.toList) h0 (by simpa [Str.length] using h1)
  simp [woA, given, gv1, back, bk1, pad, envOf, ioOk, setsE, Tgs.len, Tg.ix, Tgs.ix, wipeE, restore, e, hs]
  exact hq _ _ hb' hy
def BoxOk (F : FNew) : Prop := ∀ (ns : List Int) (i : Nat) (Q : List D × List Sl → Prop), i ≤ 63 → (∀ b, Box 0 b → Q (b, [.scr (.nums ns), .d (.int i)])) → wo (F [.scr (.nums ns), .d (.int i)]) Q
theorem box_ok : BoxOk r_law_box := by
  intro ns i Q hi hq
  have m1 : mulOk 39373 (i : Int) = true := mulOk_l (by omega)
  have m2 : ∀ x : Int, ∀ p : Prop, ∀ _ : Decidable p, mulOk x (if p then 1 else 0) = true := fun x p _ => mulOk_r (by split <;> omega)
  have nn : ∀ (z : Int) (p : Prop) (_ : Decidable p), 0 ≤ (if z < 0 then -z else z) * (if p then 1 else 0) := fun z p _ => by
    have : 0 ≤ (if z < 0 then -z else z) := by split <;> omega
    by_cases h : p
    · simp only [h, if_true, Int.mul_one]; exact this
    · simp [h]
  unfold r_law_box b_law_box
  by_cases h : (i : Int) < ns.length
  · have hx : atI (ns.map PyData.int) (i : Int) = some (.int (ns[i]'(by omega))) := atI_nat (by rw [List.getElem?_map, List.getElem?_eq_getElem (by omega)]; rfl)
    generalize ns[i]'(by omega) = z at hx
    simp [woA, given, gv1, back, bk1, pad, envOf, ioOk, setsE, Tgs.len, Tg.ix, Tgs.ix, wipeE, restore, h, hx, m1, m2]
    exact hq _ ⟨_, _, 0, rfl, nn _ _ _, Int.le_refl 0, Int.le_refl 0⟩
  · have m3 : mulOk 0 0 = true := by decide
    simp [woA, given, gv1, back, bk1, pad, envOf, ioOk, setsE, Tgs.len, Tg.ix, Tgs.ix, wipeE, restore, h, m1, m2, m3]
    exact hq _ ⟨0, _, 0, rfl, by decide, Int.le_refl 0, Int.le_refl 0⟩
end HL
namespace HL
open PySem PySem.Spec L2 DL
def letB (c : Nat) : Bool := decide (97 ≤ c) && decide (c ≤ 122)
def wordB (m : Nat) (s : Str) : Bool := decide (1 ≤ s.length) && decide (s.length ≤ m) && s.cps.toList.all letB
def NameOk (F : FSem) : Prop := ∀ (t : Nat) (b : List D) (Q : D × List Sl → Prop), Box t b → t + 10 ≤ 1000000000 →
  (∀ s b', Box (t + 10) b' → wordB 8 s = true → Q (.str s, [.own b'])) → wo (F [.own b]) Q
abbrev someWords : List Str := Txt.split (Str.ofString "link late kept yes no slots pipes ring nop put text all turn reap slot good") (Str.ofString " ")
theorem words_ok : splitOk (Str.ofString "link late kept yes no slots pipes ring nop put text all turn reap slot good") (Str.ofString " ") := by
  unfold splitOk
  decide +kernel
theorem words_word : ∀ s ∈ someWords, wordB 8 s = true := by decide +kernel
theorem words_len : someWords.length = 16 := by decide +kernel
theorem tl_join0 : ∀ xs : List Str, (Txt.join (Str.ofString "") xs).cps.toList = (xs.map fun x => x.cps.toList).flatten := by
  intro xs
  have h := TL.tl_join (Str.ofString "") xs
  rw [← TL.join_eq] at h
  have e : ∀ ls : List (List Nat), TL.joinL (TL.tl (Str.ofString "")) ls = ls.flatten := by
    intro ls
    induction ls with
    | nil => rfl
    | cons p r ih =>
      cases r with
      | nil => simp [TL.joinL]
      | cons q r =>
        show p ++ (TL.tl (Str.ofString "") ++ TL.joinL (TL.tl (Str.ofString "")) (q :: r)) = _
        rw [ih]
        all_goals rfl
  rw [e] at h
  exact h
abbrev sgn (c : Nat) : Str := ⟨#[c]⟩
theorem join_sgn (cs : List Nat) : (Txt.join (Str.ofString "") (cs.map sgn)).cps.toList = cs := by
  rw [tl_join0]
  induction cs with
  | nil => rfl
  | cons c cs ih =>
    simp only [List.map_cons, List.flatten_cons]
    rw [ih]
    all_goals rfl
theorem strOk_of {x : Str} (h : ∀ c ∈ x.cps.toList, c < 1114112) : PyData.strOk x = true := by
  unfold PyData.strOk
  rw [Array.all_eq_true_iff_forall_mem]
  intro c hc
  exact decide_eq_true (h c (by simpa using hc))
theorem let_lt {c : Nat} (h : letB c = true) : c < 128 := by
  unfold letB at h
  simp at h
  omega
theorem len_tl (x : Str) : x.length = x.cps.toList.length := by simp [Str.length]
theorem sum_sgn (cs : List Nat) : ((cs.map sgn).map (·.length)).sum = cs.length := by
  induction cs with
  | nil => rfl
  | cons c cs ih =>
    simp only [List.map_cons, List.sum_cons, List.length_cons]
    rw [ih]
    show 1 + cs.length = _
    omega
theorem joinOk_sgn {cs : List Nat} (h : cs.length ≤ 1000) (hc : ∀ c ∈ cs, c < 1114112) : joinOk (Str.ofString "") (cs.map sgn) := by
  unfold joinOk
  refine ⟨?_, strOk_of ?_⟩
  · rw [sum_sgn]
    have : (Str.ofString "").length = 0 := by decide
    rw [this]
    omega
  · rw [join_sgn]; exact hc
theorem alpha_let : ∀ c ∈ (Str.ofString "abcdefghijklmnopqrstuvwxyz").cps.toList, letB c = true := by decide +kernel
theorem alpha_len : (Str.ofString "abcdefghijklmnopqrstuvwxyz").length = 26 := by decide +kernel
theorem rangeD_len {lo : Int} {n : Nat} : (rangeD lo n).length = n := by unfold rangeD; simp
theorem texts_sgn (cs : List Nat) : textsOf (cs.map fun c => PyData.str (sgn c)) = some (cs.map sgn) := by
  have := textsOf_map (cs.map sgn)
  rw [List.map_map] at this
  exact this
theorem name_ok {T O : FSem} (hT : TakeOk T) (hO : OfOk O) (hS : OfSOk O) : NameOk (r_law_name T O) := by
  intro t b Q hb ht hq
  unfold r_law_name b_law_name
  simp [woA, given, gv1, back, bk1, pad, envOf, ioOk, setsE, Tgs.len, Tg.ix, Tgs.ix, wipeE, restore]
  refine hT t b 3 _ hb (by omega) (by omega) (by omega) fun v b1 hb1 h0 h1 => ?_
  by_cases hv : v = 0
  · subst hv
    simp [woA, given, gv1, back, bk1, pad, envOf, ioOk, setsE, Tgs.len, Tg.ix, Tgs.ix, wipeE, restore, words_ok]
    refine hO (t + 1) b1 _ _ _ hb1 (by omega) (.inl rfl) ?_ ?_ fun w b2 hb2 hw => ?_
    · rw [List.length_map, words_len]; decide
    · rw [List.length_map, words_len]; decide
    · obtain ⟨s, hs, rfl⟩ := List.mem_map.mp hw
      simp [woA, given, gv1, back, bk1, pad, envOf, ioOk, setsE, Tgs.len, Tg.ix, Tgs.ix, wipeE, restore]
      exact hq _ _ (hb2.mono (by omega)) (words_word s hs)
  · simp [woA, given, gv1, back, bk1, pad, envOf, ioOk, setsE, Tgs.len, Tg.ix, Tgs.ix, wipeE, restore, hv]
    refine hT (t + 1) b1 8 _ hb1 (by omega) (by omega) (by omega) fun k b2 hb2 k0 k1 => ?_
    simp [woA, given, gv1, back, bk1, pad, envOf, ioOk, setsE, Tgs.len, Tg.ix, Tgs.ix, wipeE, restore, rangeD_len]
    refine ⟨by omega, by omega, ?_⟩
    obtain ⟨I, hI⟩ : ∃ I : List D → List D → DL.Env → Prop, ∀ ds ys r, I ds ys r ↔ ∃ (b' : List D) (cs : List Nat), r = [some (.own b'), none, none] ∧ ys = cs.map (fun c => .str (sgn c)) ∧ Box (t + 2 + cs.length) b' ∧ cs.length + ds.length = (1 + k).toNat ∧ ∀ c ∈ cs, letB c = true := ⟨_, fun _ _ _ => Iff.rfl⟩
    refine lc_inv I ?_ _ _ ((hI _ _ _).mpr ⟨b2, [], rfl, rfl, hb2, by simp [rangeD_len], by simp⟩) ?_
    · intro d ds ys r h
      obtain ⟨b', cs, rfl, rfl, hb', hl, hc⟩ := (hI _ _ _).mp h
      simp only [List.length_cons] at hl
      simp [woA, given, gv1, back, bk1, pad, envOf, ioOk, setsE, Tgs.len, Tg.ix, Tgs.ix, wipeE, restore]
      refine hS (t + 2 + cs.length) b' _ _ hb' (by omega) (by rw [alpha_len]; omega) (by rw [alpha_len]; omega) fun c b3 hb3 h3 => ?_
      simp [woA, given, gv1, back, bk1, pad, envOf, ioOk, setsE, Tgs.len, Tg.ix, Tgs.ix, wipeE, restore]
      exact (hI _ _ _).mpr ⟨b3, cs ++ [c], rfl, by simp, by simpa [Nat.add_assoc] using hb3, by simp; omega, fun z hz => by
        rcases List.mem_append.mp hz with hz | hz
        · exact hc z hz
        · cases List.mem_singleton.mp hz; exact alpha_let _ h3⟩
    · intro ys r h
      obtain ⟨b', cs, rfl, rfl, hb', hl, hc⟩ := (hI _ _ _).mp h
      simp only [List.length_nil, Nat.add_zero] at hl
      simp [woA, given, gv1, back, bk1, pad, envOf, ioOk, setsE, Tgs.len, Tg.ix, Tgs.ix, wipeE, restore, texts_sgn]
      refine ⟨joinOk_sgn (by omega) fun c h => Nat.lt_trans (let_lt (hc c h)) (by decide), hq _ _ (hb'.mono (by omega)) ?_⟩
      unfold wordB
      rw [len_tl, join_sgn]
      simp
      exact ⟨⟨by omega, by omega⟩, hc⟩
end HL
namespace HL
open PySem PySem.Spec L2 DL
theorem nodup_le {α : Type} [DecidableEq α] : ∀ {l m : List α}, l.Nodup → (∀ x ∈ l, x ∈ m) → l.length ≤ m.length
  | [], m, _, _ => Nat.zero_le _
  | x :: l, m, hn, hs => by
    have hx : x ∈ m := hs x List.mem_cons_self
    have h := nodup_le (l := l) (m := m.erase x) (List.nodup_cons.mp hn).2 fun y hy => by
      have hne : y ≠ x := fun e => (List.nodup_cons.mp hn).1 (e ▸ hy)
      exact (List.mem_erase_of_ne hne).mpr (hs y (List.mem_cons_of_mem _ hy))
    rw [List.length_erase_of_mem hx] at h
    have : 0 < m.length := List.length_pos_of_mem hx
    simp only [List.length_cons]
    omega
theorem pigeon {α : Type} [DecidableEq α] {l m : List α} (hn : l.Nodup) (h : m.length < l.length) : ∃ x ∈ l, x ∉ m := by
  refine Classical.byContradiction fun c => ?_
  have := nodup_le hn fun x hx => Classical.byContradiction fun hm => c ⟨x, hx, hm⟩
  omega
def bigs : List Str := (signs (Str.ofString "abcdefghijklmnopqrstuvwxyz")).map fun d => match d with | .str x => repS 8 x | _ => Str.empty
theorem bigs_nodup : bigs.Nodup := by decide +kernel
theorem bigs_len : bigs.length = 26 := by decide +kernel
theorem bigs_word : ∀ s ∈ bigs, wordB 8 s = true := by decide +kernel
theorem bigs_ok : ∀ d ∈ signs (Str.ofString "abcdefghijklmnopqrstuvwxyz"), ∃ x, d = .str x ∧ x.length = 1 ∧ (repS 8 x).length ≤ 16777216 ∧ PyData.strOk (repS 8 x) = true := by
  have h : ∀ c ∈ (Str.ofString "abcdefghijklmnopqrstuvwxyz").cps.toList, (repS 8 (sgn c)).length ≤ 16777216 ∧ PyData.strOk (repS 8 (sgn c)) = true := by decide +kernel
  intro d hd
  unfold signs at hd
  obtain ⟨c, hc, rfl⟩ := List.mem_map.mp hd
  exact ⟨_, rfl, rfl, h c hc⟩
theorem bigs_lc (a0 a1 a2 a3 a4 a5 a7 : Option Sl) : lcLoop (.nm 6) tTrue (mBin false (.sl 6) (.ex (j8 (.int 8))) fMul2) [6] (signs (Str.ofString "abcdefghijklmnopqrstuvwxyz")) [a0, a1, a2, a3, a4, a5, none, a7] = some (bigs.map PyData.str, [a0, a1, a2, a3, a4, a5, none, a7]) := by
  have e : bigs.map PyData.str = (signs (Str.ofString "abcdefghijklmnopqrstuvwxyz")).map fun d => match d with | .str x => .str (repS 8 x) | _ => .str Str.empty := by
    unfold bigs
    rw [List.map_map]
    refine List.map_congr_left fun d hd => ?_
    obtain ⟨x, rfl, _⟩ := bigs_ok d hd
    rfl
  rw [e]
  refine lc_map _ fun d hd => ?_
  obtain ⟨x, rfl, h1, h2, h3⟩ := bigs_ok d hd
  refine ⟨[a0, a1, a2, a3, a4, a5, some (.d (.str x)), a7], wo_eq (by simp [woA, given, gv1, back, bk1, pad, envOf, ioOk, setsE, Tgs.len, Tg.ix, Tgs.ix, wipeE, restore]), wo_eq ?_, by simp [wipeE]⟩
  simp [woA, given, gv1, back, bk1, pad, envOf, ioOk, setsE, Tgs.len, Tg.ix, Tgs.ix, wipeE, restore, h1, h2, h3]
theorem any_str {ss : List Str} {w : Str} : ((ss.map PyData.str).any fun y => PyData.eqv y (.str w)) = decide (w ∈ ss) := by
  induction ss with
  | nil => rfl
  | cons s ss ih =>
    rw [List.map_cons, List.any_cons, ih, eqv_str]
    by_cases h : s = w
    · subst h; simp
    · have : w ≠ s := fun e => h e.symm
      simp [h, this]
def NamesOk (F : FNew) : Prop := ∀ (t : Nat) (b : List D) (m : Nat) (Q : List D × List Sl → Prop), Box t b → m ≤ 25 → t + 20 * m ≤ 1000000000 →
  (∀ (ss : List Str) (b' : List D), Box (t + 20 * m) b' → ss.length = m → (∀ s ∈ ss, wordB 8 s = true) → ss.Nodup → Q (ss.map PyData.str, [.own b', .d (.int m)])) → wo (F [.own b, .d (.int m)]) Q
theorem names_ok {N : FSem} (hN : NameOk N) : NamesOk (r_law_names N) := by
  intro t b m Q hb hm ht hq
  unfold r_law_names b_law_names
  simp [woA, given, gv1, back, bk1, pad, envOf, ioOk, setsE, Tgs.len, Tg.ix, Tgs.ix, wipeE, restore]
  refine ⟨by omega, ?_⟩
  obtain ⟨I, hI⟩ : ∃ I : List D → DL.Env → Prop, ∀ ds r, I ds r ↔ ∃ (b' : List D) (ss : List Str) (a3 a4 : Option Sl), canB (some a3) = true ∧ r = [some (.own b'), some (.d (.int m)), some (.own (ss.map PyData.str)), a3, a4, none, none, none] ∧ Box (t + 20 * ss.length) b' ∧ ss.length + ds.length = m ∧ (∀ s ∈ ss, wordB 8 s = true) ∧ ss.Nodup := ⟨_, fun _ _ => Iff.rfl⟩
  refine for_inv I ?_ ?_ _ _ ((hI _ _).mpr ⟨b, [], none, none, rfl, rfl, hb, by simp [rangeD_len], by simp, by simp⟩)
  · intro d ds r h
    obtain ⟨b', ss, a3, a4, h3, rfl, hb', hl, hw, hn⟩ := (hI _ _).mp h
    simp only [List.length_cons] at hl
    have e2 : rangeD 0 2 = [.int 0, .int 1] := rfl
    have lit : ((2 : Int)).toNat = 2 := rfl
    simp [woA, given, gv1, back, bk1, pad, envOf, ioOk, setsE, Tgs.len, Tg.ix, Tgs.ix, wipeE, restore, h3, lit, e2, wo_lcCons]
    refine hN _ b' _ hb' (by omega) fun s1 b1 hb1 w1 => ?_
    simp [woA, given, gv1, back, bk1, pad, envOf, ioOk, setsE, Tgs.len, Tg.ix, Tgs.ix, wipeE, restore, wo_lcCons]
    refine hN _ b1 _ hb1 (by omega) fun s2 b2 hb2 w2 => ?_
    simp [woA, given, gv1, back, bk1, pad, envOf, ioOk, setsE, Tgs.len, Tg.ix, Tgs.ix, wipeE, restore, bigs_lc]
    rw [show (signs (Str.ofString "abcdefghijklmnopqrstuvwxyz")).length = 26 from by decide +kernel, bigs_len]
    refine ⟨by omega, by omega, by omega, ?_⟩
    obtain ⟨ws, hws⟩ : ∃ ws : List Str, ws = s1 :: s2 :: bigs := ⟨_, rfl⟩
    have ews : PyData.str s1 :: PyData.str s2 :: bigs.map PyData.str = ws.map PyData.str := by rw [hws]; rfl
    have wws : ∀ w ∈ ws, wordB 8 w = true := by
      intro w hw
      rw [hws] at hw
      rcases List.mem_cons.mp hw with rfl | hw
      · exact w1
      · rcases List.mem_cons.mp hw with rfl | hw
        · exact w2
        · exact bigs_word w hw
    rw [ews]
    rw [lc_filter (fun d => !(ss.map PyData.str).any fun y => PyData.eqv y d) (fun d => d), y6]
    · obtain ⟨w0, hw0, hn0⟩ := pigeon (m := ss) bigs_nodup (by rw [bigs_len]; omega)
      have ef : ∀ zs : List Str, (zs.map PyData.str).filter (fun d => !(ss.map PyData.str).any fun y => PyData.eqv y d) = (zs.filter fun w => decide (w ∉ ss)).map PyData.str := by
        intro zs
        induction zs with
        | nil => rfl
        | cons z zs ih =>
          rw [List.map_cons, List.filter_cons, List.filter_cons, any_str, ih]
          by_cases hz : z ∈ ss <;> simp [hz]
      rw [ef, List.map_id'' fun _ => rfl]
      cases hf : ws.filter fun w => decide (w ∉ ss) with
      | nil =>
        have : w0 ∈ ws.filter fun w => decide (w ∉ ss) := List.mem_filter.mpr ⟨by rw [hws]; simp [hw0], by simp [hn0]⟩
        rw [hf] at this
        cases this
      | cons w rest =>
        have hm : w ∈ ws.filter fun w => decide (w ∉ ss) := by rw [hf]; exact List.mem_cons_self
        obtain ⟨k1, k2⟩ := List.mem_filter.mp hm
        simp [woA, given, gv1, back, bk1, pad, envOf, ioOk, setsE, Tgs.len, Tg.ix, Tgs.ix, wipeE, restore]
        refine ⟨by omega, (hI _ _).mpr ⟨b2, ss ++ [w], some (.d d), some (.d (.list (ws.map PyData.str))), rfl, by simp, ?_, ?_, ?_, ?_⟩⟩
        · exact hb2.mono (by simp; omega)
        · simp; omega
        · intro s hs
          rcases List.mem_append.mp hs with hs | hs
          · exact hw s hs
          · cases List.mem_singleton.mp hs; exact wws _ k1
        · refine List.nodup_append.mpr ⟨hn, by simp, fun a ha c hc => ?_⟩
          cases List.mem_singleton.mp hc
          intro e
          subst e
          simp [ha] at k2
    · intro d hd
      obtain ⟨w, hw', rfl⟩ := List.mem_map.mp hd
      refine ⟨_, wo_eq (by simp [woA, given, gv1, back, bk1, pad, envOf, ioOk, setsE, Tgs.len, Tg.ix, Tgs.ix, wipeE, restore]; rfl), wo_eq ?_, fun _ => wo_eq ?_, ?_⟩
      · simp [woA, given, gv1, back, bk1, pad, envOf, ioOk, setsE, Tgs.len, Tg.ix, Tgs.ix, wipeE, restore]
      · simp [woA, given, gv1, back, bk1, pad, envOf, ioOk, setsE, Tgs.len, Tg.ix, Tgs.ix, wipeE, restore]
      · simp [wipeE]
  · intro r h
    obtain ⟨b', ss, a3, a4, h3, rfl, hb', hl, hw, hn⟩ := (hI _ _).mp h
    simp only [List.length_nil, Nat.add_zero] at hl
    subst hl
    simp [woA, given, gv1, back, bk1, pad, envOf, ioOk, setsE, Tgs.len, Tg.ix, Tgs.ix, wipeE, restore]
    exact hq _ _ hb' rfl hw hn
end HL
namespace HL
open PySem PySem.Spec L2 DL
def optD : Option Str → D
  | none => .none
  | some s => .str s
def mkSetup (sp ro : Int) (ps : List Str) (sl : List (Option Str)) : D := .tuple [.int sp, .int ro, .tuple (ps.map PyData.str), .tuple (sl.map optD)]
structure SetupOk (l : Nat) (sp ro : Int) (ps : List Str) (sl : List (Option Str)) : Prop where
  sp1 : 1 ≤ sp
  sp6 : sp ≤ 6
  ro1 : 1 ≤ ro
  ro8 : ro ≤ 8
  least : l ≤ ps.length
  most : ps.length ≤ 4
  word : ∀ s ∈ ps, wordB 8 s = true
  nd : ps.Nodup
  pw : ps.Pairwise fun a b => leS a b = true
  slen : sl.length ≤ 5
  has : ∀ s, some s ∈ sl → s ∈ ps
def NamedSetupOk (F : FSem) : Prop := ∀ (t : Nat) (b : List D) (l : Nat) (Q : D × List Sl → Prop), Box t b → l ≤ 4 → t + 200 ≤ 1000000000 →
  (∀ (sp ro : Int) (ps : List Str) (sl : List (Option Str)) (b' : List D), Box (t + 200) b' → SetupOk l sp ro ps sl → Q (mkSetup sp ro ps sl, [.own b', .d (.int l)])) → wo (F [.own b, .d (.int l)]) Q
theorem sortT_perm (xs : List Str) : (sortT xs).Perm xs := List.mergeSort_perm xs leS
theorem sortT_pw (xs : List Str) : (sortT xs).Pairwise fun a b => leS a b = true := List.pairwise_mergeSort leS_trans leS_total xs
theorem named_setup_ok {T O : FSem} {N : FNew} (hT : TakeOk T) (hO : OfOk O) (hN : NamesOk N) : NamedSetupOk (r_law_named_setup T O N) := by
  intro t b l Q hb hl ht hq
  unfold r_law_named_setup b_law_named_setup
  simp [woA, given, gv1, back, bk1, pad, envOf, ioOk, setsE, Tgs.len, Tg.ix, Tgs.ix, wipeE, restore]
  refine hT t b _ _ hb (by omega) (by omega) (by omega) fun v b1 hb1 h0 h1 => ?_
  simp [woA, given, gv1, back, bk1, pad, envOf, ioOk, setsE, Tgs.len, Tg.ix, Tgs.ix, wipeE, restore]
  rw [show (l : Int) + v = ((l + v.toNat : Nat) : Int) by omega]
  refine hN _ b1 _ _ hb1 (by omega) (by omega) fun ss b2 hb2 e2 w2 n2 => ?_
  simp [woA, given, gv1, back, bk1, pad, envOf, ioOk, setsE, Tgs.len, Tg.ix, Tgs.ix, wipeE, restore, textsOf_map]
  refine ⟨by omega, ?_⟩
  refine hT _ b2 6 _ hb2 (by omega) (by omega) (by omega) fun k b3 hb3 k0 k1 => ?_
  simp [woA, given, gv1, back, bk1, pad, envOf, ioOk, setsE, Tgs.len, Tg.ix, Tgs.ix, wipeE, restore, rangeD_len]
  refine ⟨by omega, by omega, ?_⟩
  have hp := sortT_perm ss
  have hpl : (sortT ss).length = ss.length := hp.length_eq
  generalize hps : sortT ss = ps at *
  have hpw : ps.Pairwise fun a b => leS a b = true := by rw [← hps]; exact sortT_pw ss
  obtain ⟨I, hI⟩ : ∃ I : List D → List D → DL.Env → Prop, ∀ ds ys r, I ds ys r ↔ ∃ (b' : List D) (sl : List (Option Str)), r = [some (.own b'), some (.d (.int l)), some (.d (.tuple (ps.map PyData.str))), none, none] ∧ ys = sl.map optD ∧ Box (t + 1 + 20 * (l + v.toNat) + 1 + sl.length) b' ∧ sl.length + ds.length = k.toNat ∧ ∀ s, some s ∈ sl → s ∈ ps := ⟨_, fun _ _ _ => Iff.rfl⟩
  refine lc_inv I ?_ _ _ ((hI _ _ _).mpr ⟨b3, [], rfl, rfl, hb3, by simp [rangeD_len], by simp⟩) ?_
  · intro d ds ys r h
    obtain ⟨b', sl, rfl, rfl, hb', hl', hc⟩ := (hI _ _ _).mp h
    simp only [List.length_cons] at hl'
    simp [woA, given, gv1, back, bk1, pad, envOf, ioOk, setsE, Tgs.len, Tg.ix, Tgs.ix, wipeE, restore]
    refine ⟨by omega, ?_⟩
    refine hO _ b' _ _ _ hb' (by omega) (.inr rfl) (by simp) (by simp; omega) fun w b4 hb4 hw => ?_
    simp [woA, given, gv1, back, bk1, pad, envOf, ioOk, setsE, Tgs.len, Tg.ix, Tgs.ix, wipeE, restore]
    have : ∃ o : Option Str, w = optD o ∧ ∀ s, o = some s → s ∈ ps := by
      rcases List.mem_append.mp hw with hw | hw
      · obtain ⟨s, hs, rfl⟩ := List.mem_map.mp hw
        exact ⟨some s, rfl, fun z hz => by cases hz; exact hs⟩
      · cases List.mem_singleton.mp hw
        exact ⟨none, rfl, fun z hz => by cases hz⟩
    obtain ⟨o, rfl, ho⟩ := this
    exact (hI _ _ _).mpr ⟨b4, sl ++ [o], rfl, by simp, by simpa [Nat.add_assoc] using hb4, by simp; omega, fun s hs => by
      rcases List.mem_append.mp hs with hs | hs
      · exact hc s hs
      · exact ho s (List.mem_singleton.mp hs).symm⟩
  · intro ys r h
    obtain ⟨b', sl, rfl, rfl, hb', hl', hc⟩ := (hI _ _ _).mp h
    simp only [List.length_nil, Nat.add_zero] at hl'
    simp [woA, given, gv1, back, bk1, pad, envOf, ioOk, setsE, Tgs.len, Tg.ix, Tgs.ix, wipeE, restore]
    refine hT _ b' 6 _ hb' (by omega) (by omega) (by omega) fun sp b5 hb5 s0 s1 => ?_
    simp [woA, given, gv1, back, bk1, pad, envOf, ioOk, setsE, Tgs.len, Tg.ix, Tgs.ix, wipeE, restore]
    refine hT _ b5 8 _ hb5 (by omega) (by omega) (by omega) fun ro b6 hb6 r0 r1 => ?_
    simp [woA, given, gv1, back, bk1, pad, envOf, ioOk, setsE, Tgs.len, Tg.ix, Tgs.ix, wipeE, restore]
    refine hq (1 + sp) (1 + ro) ps sl b6 (hb6.mono (by omega)) ⟨by omega, by omega, by omega, by omega, by omega, by omega, fun s hs => w2 s (hp.mem_iff.mp hs), hp.symm.nodup n2, hpw, by omega, hc⟩
end HL
namespace HL
open PySem PySem.Spec L2 DL
def ListsOk (n : Nat) (F : FSem) : Prop := ∀ d, fit 1000 n d = true → F [.d d] = some (lstD d, [.d d])
theorem lists_ok {n : Nat} {F : FSem} (h : ∀ m, n = m + 1 → ListsOk m F) : ListsOk n (r_law_lists F) := by
  have node : ∀ (m : Nat) (d : D) (xs : List D), n = m + 1 → (d = .list xs ∨ d = .tuple xs) → xs.length ≤ 1000 → (∀ x ∈ xs, fit 1000 m x = true) → r_law_lists F [.d d] = some (.list (lstL xs), [.d d]) := fun m d xs e hd hl hx => by
    have lc : lcLoop (.nm 1) tTrue (mFn F [(.sl 1)]) [1] xs [some (.d d), none] = some (xs.map lstD, [some (.d d), none]) := lc_map lstD fun x hx' => ⟨[some (.d d), some (.d x)], wo_eq (by simp [woA, given, gv1, back, bk1, pad, envOf, ioOk, setsE, Tgs.len, Tg.ix, Tgs.ix, wipeE, restore]), wo_eq (by simp [woA, given, gv1, back, bk1, pad, envOf, ioOk, setsE, Tgs.len, Tg.ix, Tgs.ix, wipeE, restore, h m e x (hx x hx')]), by simp [wipeE]⟩
    rw [lstL_map]
    refine wo_eq ?_
    unfold r_law_lists b_law_lists
    have hs : xs.length ≤ 16777216 := by omega
    rcases hd with rfl | rfl <;> simp [woA, given, gv1, back, bk1, pad, envOf, ioOk, setsE, Tgs.len, Tg.ix, Tgs.ix, wipeE, restore, lc, hs]
  have leaf : ∀ (d : D), isT2 "list" "tuple" d = some false → lstD d = d → r_law_lists F [.d d] = some (lstD d, [.d d]) := fun d e1 e2 => by
    refine wo_eq ?_
    unfold r_law_lists b_law_lists
    simp [woA, given, gv1, back, bk1, pad, envOf, ioOk, setsE, Tgs.len, Tg.ix, Tgs.ix, wipeE, restore, e1, e2]
  intro d hf
  cases d with
  | none => exact leaf _ (by simp [isT2, isT]) rfl
  | bool b => exact leaf _ (by simp [isT2, isT]) rfl
  | int b => exact leaf _ (by simp [isT2, isT]) rfl
  | str b => exact leaf _ (by simp [isT2, isT]) rfl
  | dict _ => exact (fit_dict hf).elim
  | list xs =>
    obtain ⟨m, e, h1, h2⟩ := fit_list hf
    exact node m _ xs e (.inl rfl) h1 h2
  | tuple xs =>
    obtain ⟨m, e, h1, h2⟩ := fit_tuple hf
    exact node m _ xs e (.inr rfl) h1 h2
def SameOk (n : Nat) (F : FSem) : Prop := ∀ d, fit 1000 n d = true → F [.d d, .d d] = some (.bool true, [.d d, .d d])
theorem pair_map : ∀ xs : List D, pairD xs xs = xs.map fun x => .tuple [x, x]
  | [] => rfl
  | x :: xs => by rw [pairD, pair_map xs]; rfl
theorem bools_true {α : Type} : ∀ xs : List α, boolsOf (xs.map fun _ => PyData.bool true) = some (xs.map fun _ => true) := fun xs => boolsOf_map (fun _ => true) xs
theorem bools_rep : ∀ n : Nat, boolsOf (List.replicate n (PyData.bool true)) = some (List.replicate n true)
  | 0 => rfl
  | n + 1 => by rw [List.replicate_succ, boolsOf, bools_rep n]; rfl
theorem same_ok {n : Nat} {F : FSem} (h : ∀ m, n = m + 1 → SameOk m F) : SameOk n (r_law_same F) := by
  have node : ∀ (m : Nat) (d : D) (xs : List D), n = m + 1 → (d = .list xs ∨ d = .tuple xs) → xs.length ≤ 1000 → (∀ x ∈ xs, fit 1000 m x = true) → r_law_same F [.d d, .d d] = some (.bool true, [.d d, .d d]) := fun m d xs e hd hl hx => by
    have lc : ∀ (pm : Tg) , pm = .tup (.cons (.nm 3) (.cons (.nm 4) .nil)) → lcLoop pm tTrue (mFn F [(.sl 3), (.sl 4)]) [3, 4] (xs.map fun x => PyData.tuple [x, x]) [some (.d d), some (.d d), none, none, none] = some (xs.map fun _ => PyData.bool true, [some (.d d), some (.d d), none, none, none]) := fun pm e' => by
      subst e'
      rw [show (xs.map fun _ => PyData.bool true) = (xs.map fun x => PyData.tuple [x, x]).map fun _ => PyData.bool true by rw [List.map_map]; rfl]
      refine lc_map _ fun y hy => ?_
      obtain ⟨x, hx', rfl⟩ := List.mem_map.mp hy
      exact ⟨[some (.d d), some (.d d), none, some (.d x), some (.d x)], wo_eq (by simp [woA, given, gv1, back, bk1, pad, envOf, ioOk, setsE, Tgs.len, Tg.ix, Tgs.ix, wipeE, restore]), wo_eq (by simp [woA, given, gv1, back, bk1, pad, envOf, ioOk, setsE, Tgs.len, Tg.ix, Tgs.ix, wipeE, restore, h m e x (hx x hx')]), by simp [wipeE]⟩
    refine wo_eq ?_
    unfold r_law_same b_law_same
    have hs : xs.length ≤ 16777216 := by omega
    have hs2 : (xs.map fun x => PyData.tuple [x, x]).length ≤ 16777216 := by simpa using hs
    rcases hd with rfl | rfl <;> simp [woA, given, gv1, back, bk1, pad, envOf, ioOk, setsE, Tgs.len, Tg.ix, Tgs.ix, wipeE, restore, pair_map, hs] <;> rw [lc _ rfl, y6] <;> simp [woA, given, gv1, back, bk1, pad, envOf, ioOk, setsE, Tgs.len, Tg.ix, Tgs.ix, wipeE, restore, bools_true, bools_rep]
  intro d hf
  cases d with
  | none => refine wo_eq ?_; unfold r_law_same b_law_same; simp [woA, given, gv1, back, bk1, pad, envOf, ioOk, setsE, Tgs.len, Tg.ix, Tgs.ix, wipeE, restore, fEq, PyData.eqv]
  | bool b => refine wo_eq ?_; unfold r_law_same b_law_same; simp [woA, given, gv1, back, bk1, pad, envOf, ioOk, setsE, Tgs.len, Tg.ix, Tgs.ix, wipeE, restore, fEq, PyData.eqv]
  | int b => refine wo_eq ?_; unfold r_law_same b_law_same; simp [woA, given, gv1, back, bk1, pad, envOf, ioOk, setsE, Tgs.len, Tg.ix, Tgs.ix, wipeE, restore, fEq, PyData.eqv]
  | str b => refine wo_eq ?_; unfold r_law_same b_law_same; simp [woA, given, gv1, back, bk1, pad, envOf, ioOk, setsE, Tgs.len, Tg.ix, Tgs.ix, wipeE, restore, fEq, PyData.eqv]
  | dict _ => exact (fit_dict hf).elim
  | list xs =>
    obtain ⟨m, e, h1, h2⟩ := fit_list hf
    exact node m _ xs e (.inl rfl) h1 h2
  | tuple xs =>
    obtain ⟨m, e, h1, h2⟩ := fit_tuple hf
    exact node m _ xs e (.inr rfl) h1 h2
end HL
namespace HL
open PySem PySem.Spec L2 DL
def ascB (x : Str) : Bool := x.cps.toList.all fun c => decide (c < 128)
/-- numbers up to w, lists and texts up to m, at most n levels; texts in ascii -/
def nice (w m : Nat) : Nat → D → Bool
  | 0, .list _ => false
  | 0, .tuple _ => false
  | n + 1, .list xs => decide (xs.length ≤ m) && xs.all (nice w m n)
  | n + 1, .tuple xs => decide (xs.length ≤ m) && xs.all (nice w m n)
  | _, .dict _ => false
  | _, .str x => decide (x.length ≤ m) && ascB x
  | _, .int i => decide (i.natAbs ≤ w)
  | _, .bool _ => true
  | _, .none => true
theorem nice_int {w m n : Nat} {i : Int} : nice w m n (.int i) = decide (i.natAbs ≤ w) := by cases n <;> rfl
theorem nice_str {w m n : Nat} {x : Str} : nice w m n (.str x) = (decide (x.length ≤ m) && ascB x) := by cases n <;> rfl
theorem nice_bool {w m n : Nat} {b : Bool} : nice w m n (.bool b) = true := by cases n <;> rfl
theorem nice_none {w m n : Nat} : nice w m n .none = true := by cases n <;> rfl
theorem nice_dict {w m n : Nat} {k} (h : nice w m n (.dict k) = true) : False := by cases n <;> cases h
theorem nice_seq {w m n : Nat} {d : D} {xs : List D} (hd : d = .list xs ∨ d = .tuple xs) : nice w m n d = true ↔ ∃ k, n = k + 1 ∧ xs.length ≤ m ∧ ∀ x ∈ xs, nice w m k x = true := by
  rcases hd with rfl | rfl <;> cases n <;> simp [nice]
theorem nice_fit {w m : Nat} (hm : m ≤ 1000) : ∀ {n : Nat} {d : D}, nice w m n d = true → fit 1000 n d = true := by
  intro n
  induction n with
  | zero =>
    intro d h
    cases d with
    | none => rfl
    | bool b => rfl
    | int i => rfl
    | str x => rw [nice_str] at h; simp at h; simp [fit]; omega
    | list xs => cases h
    | tuple xs => cases h
    | dict k => cases h
  | succ n ih =>
    intro d h
    cases d with
    | none => rfl
    | bool b => rfl
    | int i => rfl
    | str x => rw [nice_str] at h; simp at h; simp [fit]; omega
    | list xs =>
      obtain ⟨k, e, h1, h2⟩ := (nice_seq (.inl rfl)).mp h
      cases e
      exact fit_of_list (by omega) fun x hx => ih (h2 x hx)
    | tuple xs =>
      obtain ⟨k, e, h1, h2⟩ := (nice_seq (.inr rfl)).mp h
      cases e
      exact fit_of_tuple (by omega) fun x hx => ih (h2 x hx)
    | dict k => cases h
theorem showAll {xs : List D} (h : ∀ x ∈ xs, x.showable = true) : PyData.showableAll xs = true := by
  induction xs with
  | nil => simp [PyData.showableAll]
  | cons x xs ih =>
    unfold PyData.showableAll
    rw [h x List.mem_cons_self, ih fun y hy => h y (List.mem_cons_of_mem _ hy)]
    all_goals rfl
theorem log_lt {a w : Nat} (h : a ≤ w) (hw : w.log2 < 1920) : a.log2 < 1920 := by
  by_cases ha : a = 0
  · subst ha; decide
  · have hw0 : w ≠ 0 := by omega
    refine (Nat.log2_lt ha).mpr ?_
    exact Nat.lt_of_le_of_lt h ((Nat.log2_lt hw0).mp hw)
theorem nice_show {w m : Nat} (hw : w.log2 < 1920) : ∀ {n : Nat} {d : D}, nice w m n d = true → d.showable = true := by
  intro n
  induction n with
  | zero =>
    intro d h
    cases d with
    | none => simp [PyData.showable]
    | bool b => simp [PyData.showable]
    | int i => rw [nice_int] at h; simp at h; simp [PyData.showable]; exact log_lt h hw
    | str x => simp [PyData.showable]
    | list xs => cases h
    | tuple xs => cases h
    | dict k => cases h
  | succ n ih =>
    intro d h
    cases d with
    | none => simp [PyData.showable]
    | bool b => simp [PyData.showable]
    | int i => rw [nice_int] at h; simp at h; simp [PyData.showable]; exact log_lt h hw
    | str x => simp [PyData.showable]
    | list xs =>
      obtain ⟨k, e, h1, h2⟩ := (nice_seq (.inl rfl)).mp h
      cases e
      simp only [PyData.showable]
      exact showAll fun x hx => ih (h2 x hx)
    | tuple xs =>
      obtain ⟨k, e, h1, h2⟩ := (nice_seq (.inr rfl)).mp h
      cases e
      simp only [PyData.showable]
      exact showAll fun x hx => ih (h2 x hx)
    | dict k => cases h
theorem nice_repr {w m n B : Nat} {d : D} (hw : w.log2 < 1920) (hm : m ≤ 1000) (hn : n ≤ 60) (h : nice w m n d = true) (hb : wt d ≤ B) (hB : B ≤ 16000000) : fRepr [d] = some (.str (PyData.shown d)) := by
  have r : reprOk d = true := by
    unfold reprOk
    rw [nice_show hw h, fit_flat hn (nice_fit hm h)]
    simp
    omega
  cases d with
  | none => rfl
  | bool b => rfl
  | int i => simp [fRepr, r]
  | str x => simp [fRepr, r]
  | list xs => simp [fRepr, r]
  | tuple xs => simp [fRepr, r]
  | dict k => exact (nice_dict h).elim
theorem wt_seq {d : D} {xs : List D} (hd : d = .list xs ∨ d = .tuple xs) : wt d = wtAll xs + 3 := by rcases hd with rfl | rfl <;> rfl
end HL
namespace HL
open PySem PySem.Spec L2 DL
end HL
namespace HL
open PySem PySem.Spec L2 DL
def fromB (l : Int) : D → Bool
  | .int i => decide (l ≤ i)
  | _ => false
def wordD (m : Nat) : D → Bool
  | .str x => wordB m x
  | _ => false
theorem bools_all {α : Type} (f : α → Bool) (xs : List α) : ((xs.map f).all id) = xs.all f := by simp
end HL
namespace HL
open PySem PySem.Spec L2 DL
abbrev ltS (a b : Str) : Bool := decide (a.cps.toList < b.cps.toList)
def adjB : List Str → Bool
  | a :: b :: r => ltS a b && adjB (b :: r)
  | _ => true
theorem ltS_le {a b : Str} (h : ltS a b = true) : leS a b = true ∧ a ≠ b := by
  have h := of_decide_eq_true h
  refine ⟨leS_iff.mpr (List.le_of_lt h), fun e => ?_⟩
  subst e
  exact List.lt_irrefl _ h
theorem le_ltS {a b : Str} (h : leS a b = true) (hn : a ≠ b) : ltS a b = true := by
  refine decide_eq_true ?_
  have := leS_iff.mp h
  rcases Classical.em (a.cps.toList < b.cps.toList) with z | z
  · exact z
  · exact absurd (leS_anti h (leS_iff.mpr (List.not_lt.mp z))) hn
theorem adj_pw : ∀ {ss : List Str}, adjB ss = true → ss.Pairwise fun a b => ltS a b = true
  | [], _ => .nil
  | [a], _ => by simp
  | a :: b :: r, h => by
    rw [adjB, Bool.and_eq_true] at h
    have ih := adj_pw h.2
    refine List.pairwise_cons.mpr ⟨fun c hc => ?_, ih⟩
    rcases List.mem_cons.mp hc with rfl | hc
    · exact h.1
    · have h2 := (List.pairwise_cons.mp ih).1 c hc
      exact decide_eq_true (List.lt_trans (of_decide_eq_true h.1) (of_decide_eq_true h2))
theorem pw_adj : ∀ {ss : List Str}, (ss.Pairwise fun a b => ltS a b = true) → adjB ss = true
  | [], _ => rfl
  | [a], _ => rfl
  | a :: b :: r, h => by
    rw [adjB, Bool.and_eq_true]
    have h' := List.pairwise_cons.mp h
    exact ⟨h'.1 b List.mem_cons_self, pw_adj h'.2⟩
theorem uniq_self : ∀ {ss : List Str}, ss.Nodup → uniqS ss = ss
  | [], _ => rfl
  | a :: r, h => by
    have h' := List.nodup_cons.mp h
    rw [uniqS, uniq_self h'.2, if_neg h'.1]
theorem adj_iff (ss : List Str) : adjB ss = decide (ss = sortT (uniqS ss)) := by
  by_cases h : adjB ss = true
  · have pw := adj_pw h
    have nd : ss.Nodup := pw.imp fun hab => (ltS_le hab).2
    have e : ss = sortT (uniqS ss) := by
      rw [uniq_self nd]
      exact sort_unique (List.Perm.refl ss) (pw.imp fun hab => (ltS_le hab).1)
    rw [h]
    exact (decide_eq_true e).symm
  · have hn : ¬ ss = sortT (uniqS ss) := fun e => h <| by
      have nd : ss.Nodup := by
        rw [e]
        exact (sortT_perm _).symm.nodup uniq_nd
      have pw : ss.Pairwise fun a b => leS a b = true := by
        rw [e]
        exact sortT_pw _
      refine pw_adj ?_
      exact (List.pairwise_and_iff.mpr ⟨pw, nd⟩).imp fun ⟨k1, k2⟩ => le_ltS k1 k2
    rw [Bool.not_eq_true] at h
    rw [h]
    exact (decide_eq_false hn).symm
theorem lc_bools {t : Tg} {m : SE} {vs : List Nat} {r : DL.Env} {ds : List D} (f : D → Bool) (h : ∀ d ∈ ds, ∃ r1, t.bind d r = some r1 ∧ m r1 = some (.bool (f d), r1) ∧ wipeE r1 vs = r) :
    ∃ ys bs, lcLoop t tTrue m vs ds r = some (ys, r) ∧ boolsOf ys = some bs ∧ bs.all id = ds.all f ∧ bs.any id = ds.any f :=
  ⟨_, _, lc_map _ h, boolsOf_map f ds, bools_all f ds, by simp⟩
theorem flat_strs (ss : List Str) : flatD (.tuple (ss.map PyData.str)) = true := by
  have : PyData.depthAll (ss.map PyData.str) = 0 := by
    induction ss with
    | nil => rfl
    | cons s ss ih => rw [List.map_cons, PyData.depthAll, ih]; rfl
  unfold flatD PyData.depth
  rw [this]
  all_goals rfl
end HL
namespace HL
open PySem PySem.Spec L2 DL
def boolB : D → Bool
  | .bool _ => true
  | _ => false
def whB : D → Bool
  | .tuple [.str k, v] => k == Str.ofString "pipe" && wordD 8 v || k == Str.ofString "slot" && fromB 0 v
  | _ => false
def partB (c : Nat) (d : D) : Bool :=
  if c = 119 then whB d else if c = 109 then fromB 1 d else if c = 112 then fromB 0 d else if c = 98 then boolB d else if c = 111 ∧ isNone d = true then true else wordD (if c = 116 then 6 else 8) d
end HL
namespace HL
open PySem PySem.Spec L2 DL
def shapedB (kvs : List (Str × D)) : D → Bool
  | .tuple (.str w :: rest) => match lookS w kvs with
    | some (.str k) => decide (rest.length = k.length) && (List.range k.length).all fun i => partB (k.cps.toList.getD i 0) (rest.getD i .none)
    | _ => false
  | _ => false
abbrev deedB : D → Bool := shapedB kv_law_shapes
theorem sh_of {w k : Str} {n : Nat} (h : lookS w kv_law_shapes = some (.str k)) (hn : k.length = n) (rest : List D) : deedB (.tuple (.str w :: rest)) = (decide (rest.length = n) && (List.range n).all fun i => partB (k.cps.toList.getD i 0) (rest.getD i .none)) := by
  show (match lookS w kv_law_shapes with | some (.str k) => decide (rest.length = k.length) && (List.range k.length).all fun i => partB (k.cps.toList.getD i 0) (rest.getD i .none) | _ => false) = _
  rw [h]
  simp only
  rw [hn]
theorem part_w {d : D} : partB 119 d = whB d := rfl
theorem part_m {d : D} : partB 109 d = fromB 1 d := rfl
theorem part_p {d : D} : partB 112 d = fromB 0 d := rfl
theorem part_b {d : D} : partB 98 d = boolB d := rfl
theorem part_t {d : D} : partB 116 d = wordD 6 d := by simp [partB]
theorem part_n {d : D} : partB 110 d = wordD 8 d := by simp [partB]
theorem part_o {d : D} : partB 111 d = (isNone d || wordD 8 d) := by
  simp only [partB]
  cases isNone d <;> simp
theorem look_nop : lookS (Str.ofString "nop") kv_law_shapes = some (.str (Str.ofString "")) := by kernel_rfl
theorem sh_nop (rest : List D) : deedB (.tuple (.str (Str.ofString "nop") :: rest)) = (rest.isEmpty) := by
  rw [sh_of look_nop (n := 0) (by decide +kernel)]
  cases rest <;> simp
theorem look_work : lookS (Str.ofString "work") kv_law_shapes = some (.str (Str.ofString "b")) := by kernel_rfl
theorem sh_work (rest : List D) : deedB (.tuple (.str (Str.ofString "work") :: rest)) = (match rest with | [a] => boolB a | _ => false) := by
  rw [sh_of look_work (n := 1) (by decide +kernel)]
  match rest with
  | [] => rfl
  | [a] =>
    have e : (Str.ofString "b").cps = #[98] := by decide +kernel
    simp [List.range_succ, e, part_b]
  | a :: b :: r => simp
theorem look_read : lookS (Str.ofString "read") kv_law_shapes = some (.str (Str.ofString "wm")) := by kernel_rfl
theorem sh_read (rest : List D) : deedB (.tuple (.str (Str.ofString "read") :: rest)) = (match rest with | [a, b] => whB a && fromB 1 b | _ => false) := by
  rw [sh_of look_read (n := 2) (by decide +kernel)]
  match rest with
  | [] => rfl
  | [a] => rfl
  | [a, b] =>
    have e : (Str.ofString "wm").cps.toList = [119, 109] := by decide +kernel
    simp [List.range_succ, e, part_w, part_m]
  | a :: b :: c :: r => simp
theorem look_reads : lookS (Str.ofString "reads") kv_law_shapes = some (.str (Str.ofString "wm")) := by kernel_rfl
theorem sh_reads (rest : List D) : deedB (.tuple (.str (Str.ofString "reads") :: rest)) = (match rest with | [a, b] => whB a && fromB 1 b | _ => false) := by
  rw [sh_of look_reads (n := 2) (by decide +kernel)]
  match rest with
  | [] => rfl
  | [a] => rfl
  | [a, b] =>
    have e : (Str.ofString "wm").cps.toList = [119, 109] := by decide +kernel
    simp [List.range_succ, e, part_w, part_m]
  | a :: b :: c :: r => simp
theorem look_write : lookS (Str.ofString "write") kv_law_shapes = some (.str (Str.ofString "wt")) := by kernel_rfl
theorem sh_write (rest : List D) : deedB (.tuple (.str (Str.ofString "write") :: rest)) = (match rest with | [a, b] => whB a && wordD 6 b | _ => false) := by
  rw [sh_of look_write (n := 2) (by decide +kernel)]
  match rest with
  | [] => rfl
  | [a] => rfl
  | [a, b] =>
    have e : (Str.ofString "wt").cps.toList = [119, 116] := by decide +kernel
    simp [List.range_succ, e, part_w, part_t]
  | a :: b :: c :: r => simp
theorem look_shut : lookS (Str.ofString "shut") kv_law_shapes = some (.str (Str.ofString "w")) := by kernel_rfl
theorem sh_shut (rest : List D) : deedB (.tuple (.str (Str.ofString "shut") :: rest)) = (match rest with | [a] => whB a | _ => false) := by
  rw [sh_of look_shut (n := 1) (by decide +kernel)]
  match rest with
  | [] => rfl
  | [a] =>
    have e : (Str.ofString "w").cps = #[119] := by decide +kernel
    simp [List.range_succ, e, part_w]
  | a :: b :: r => simp
theorem look_timeout : lookS (Str.ofString "timeout") kv_law_shapes = some (.str (Str.ofString "p")) := by kernel_rfl
theorem sh_timeout (rest : List D) : deedB (.tuple (.str (Str.ofString "timeout") :: rest)) = (match rest with | [a] => fromB 0 a | _ => false) := by
  rw [sh_of look_timeout (n := 1) (by decide +kernel)]
  match rest with
  | [] => rfl
  | [a] =>
    have e : (Str.ofString "p").cps = #[112] := by decide +kernel
    simp [List.range_succ, e, part_p]
  | a :: b :: r => simp
theorem look_linktimeout : lookS (Str.ofString "linktimeout") kv_law_shapes = some (.str (Str.ofString "p")) := by kernel_rfl
theorem sh_linktimeout (rest : List D) : deedB (.tuple (.str (Str.ofString "linktimeout") :: rest)) = (match rest with | [a] => fromB 0 a | _ => false) := by
  rw [sh_of look_linktimeout (n := 1) (by decide +kernel)]
  match rest with
  | [] => rfl
  | [a] =>
    have e : (Str.ofString "p").cps = #[112] := by decide +kernel
    simp [List.range_succ, e, part_p]
  | a :: b :: r => simp
theorem look_cancel : lookS (Str.ofString "cancel") kv_law_shapes = some (.str (Str.ofString "n")) := by kernel_rfl
theorem sh_cancel (rest : List D) : deedB (.tuple (.str (Str.ofString "cancel") :: rest)) = (match rest with | [a] => wordD 8 a | _ => false) := by
  rw [sh_of look_cancel (n := 1) (by decide +kernel)]
  match rest with
  | [] => rfl
  | [a] =>
    have e : (Str.ofString "n").cps = #[110] := by decide +kernel
    simp [List.range_succ, e, part_n]
  | a :: b :: r => simp
theorem look_cancelall : lookS (Str.ofString "cancelall") kv_law_shapes = some (.str (Str.ofString "")) := by kernel_rfl
theorem sh_cancelall (rest : List D) : deedB (.tuple (.str (Str.ofString "cancelall") :: rest)) = (rest.isEmpty) := by
  rw [sh_of look_cancelall (n := 0) (by decide +kernel)]
  cases rest <;> simp
theorem look_update : lookS (Str.ofString "update") kv_law_shapes = some (.str (Str.ofString "po")) := by kernel_rfl
theorem sh_update (rest : List D) : deedB (.tuple (.str (Str.ofString "update") :: rest)) = (match rest with | [a, b] => fromB 0 a && (isNone b || wordD 8 b) | _ => false) := by
  rw [sh_of look_update (n := 2) (by decide +kernel)]
  match rest with
  | [] => rfl
  | [a] => rfl
  | [a, b] =>
    have e : (Str.ofString "po").cps.toList = [112, 111] := by decide +kernel
    simp [List.range_succ, e, part_p, part_o]
  | a :: b :: c :: r => simp
end HL
namespace HL
open PySem PySem.Spec L2 DL
abbrev wS (s : String) : Str := Str.ofString s
abbrev flagWords : List Str := [wS "drain", wS "hard", wS "link", wS "pick", wS "silent"]
theorem flat_words (zs : List Str) : flatD (.tuple (zs.map PyData.str)) = true := flat_strs zs
theorem in_words (zs : List Str) (s : Str) : ((zs.map PyData.str).any fun y => PyData.eqv y (.str s)) = decide (s ∈ zs) := any_str
abbrev mkR (t : Str) (e : D) (fs : List Str) : D := .tuple [.str t, e, .tuple (fs.map PyData.str)]
/-- a request that is one -/
structure Rq (t : Str) (w : Str) (rest : List D) (fs : List Str) : Prop where
  tag : wordB 8 t = true
  deed : deedB (.tuple (.str w :: rest)) = true
  fl : ∀ s ∈ fs, s ∈ flagWords
def linkB (fs : List Str) : Bool := fs.any fun f => decide (f ∈ [wS "hard", wS "link"])
theorem linkB_eq (fs : List Str) : linkB fs = (decide (wS "link" ∈ fs) || decide (wS "hard" ∈ fs)) := by
  unfold linkB
  induction fs with
  | nil => rfl
  | cons f fs ih =>
    rw [List.any_cons, ih]
    by_cases h1 : f = wS "hard"
    · subst h1; simp
    · by_cases h2 : f = wS "link"
      · subst h2; simp
      · have h1' : ¬ wS "hard" = f := fun e => h1 e.symm
        have h2' : ¬ wS "link" = f := fun e => h2 e.symm
        simp [h1, h2, h1', h2']
def LinkOk (F : FSem) : Prop := ∀ t e fs, fs.length ≤ 1000 → F [.d (mkR t e fs)] = some (.bool (linkB fs), [.d (mkR t e fs)])
theorem link_ok : LinkOk r_has_link := by
  intro t e fs hl
  refine wo_eq ?_
  unfold r_has_link b_has_link
  obtain ⟨ys, bs, lc, bo, _, an⟩ := lc_bools (t := .nm 1) (m := mBin true (.sl 1) (.ex (j8 (.tuple ([Str.ofString "hard", Str.ofString "link"].map PyData.str)))) fIn) (vs := [1]) (r := [some (.d (mkR t e fs)), none]) (ds := fs.map PyData.str) (fun d => match d with | .str f => decide (f ∈ [wS "hard", wS "link"]) | _ => false) (by
    intro x hx
    obtain ⟨s, hs, rfl⟩ := List.mem_map.mp hx
    refine ⟨_, wo_eq (by simp [woA, given, gv1, back, bk1, pad, envOf, ioOk, setsE, Tgs.len, Tg.ix, Tgs.ix, wipeE, restore]; rfl), wo_eq ?_, by simp [wipeE]⟩
    have e1 := flat_words [wS "hard", wS "link"]
    have e2 := in_words [wS "hard", wS "link"] s
    generalize ([wS "hard", wS "link"].map PyData.str) = L at *
    simp only [woA, given, gv1, back, bk1, pad, envOf, ioOk, setsE, Tgs.len, Tg.ix, Tgs.ix, wipeE, restore, List.getElem?_cons_zero, List.getElem?_cons_succ, List.set_cons_zero, List.set_cons_succ, List.map_cons, List.map_nil, List.cons_append, List.nil_append, List.length_cons, List.length_nil, e1, e2, Bool.true_or, true_and])
  simp only [List.map_cons, List.map_nil] at lc
  rw [List.any_map] at an
  have an : bs.any id = linkB fs := an
  rw [← an]
  generalize hq : bs.any id = qb
  have l1 : (fs.map PyData.str).length ≤ 16777216 := by simp; omega
  dsimp only [mkR] at *
  generalize fs.map PyData.str = L at *
  simp [woA, given, gv1, back, bk1, pad, envOf, ioOk, setsE, Tgs.len, Tg.ix, Tgs.ix, wipeE, restore, l1, lc, bo, hq]
def timerB (w : Str) : Bool := w == wS "linktimeout"
end HL
namespace HL
open PySem PySem.Spec L2 DL
inductive Dd : Str → List D → Prop
  | nop : Dd (wS "nop") []
  | work (b : Bool) : Dd (wS "work") [.bool b]
  | read (x : D) (m : Int) : whB x = true → 1 ≤ m → Dd (wS "read") [x, .int m]
  | reads (x : D) (m : Int) : whB x = true → 1 ≤ m → Dd (wS "reads") [x, .int m]
  | write (x : D) (s : Str) : whB x = true → wordB 6 s = true → Dd (wS "write") [x, .str s]
  | shut (x : D) : whB x = true → Dd (wS "shut") [x]
  | timeout (m : Int) : 0 ≤ m → Dd (wS "timeout") [.int m]
  | linktimeout (m : Int) : 0 ≤ m → Dd (wS "linktimeout") [.int m]
  | cancel (s : Str) : wordB 8 s = true → Dd (wS "cancel") [.str s]
  | cancelall : Dd (wS "cancelall") []
  | upd0 (m : Int) : 0 ≤ m → Dd (wS "update") [.int m, .none]
  | upd1 (m : Int) (s : Str) : 0 ≤ m → wordB 8 s = true → Dd (wS "update") [.int m, .str s]
theorem from_of {l : Int} {d : D} (h : fromB l d = true) : ∃ m, d = .int m ∧ l ≤ m := by
  cases d with
  | int m => exact ⟨m, rfl, of_decide_eq_true h⟩
  | _ => cases h
theorem word_of {m : Nat} {d : D} (h : wordD m d = true) : ∃ s, d = .str s ∧ wordB m s = true := by
  cases d with
  | str s => exact ⟨s, rfl, h⟩
  | _ => cases h
theorem wh_of {x : D} (h : whB x = true) : (∃ s, x = .tuple [.str (wS "pipe"), .str s] ∧ wordB 8 s = true) ∨ ∃ m, x = .tuple [.str (wS "slot"), .int m] ∧ 0 ≤ m := by
  unfold whB at h
  split at h
  · rename_i k v
    simp only [Bool.or_eq_true, Bool.and_eq_true, beq_iff_eq] at h
    rcases h with ⟨rfl, h⟩ | ⟨rfl, h⟩
    · obtain ⟨s, rfl, hs⟩ := word_of h
      exact .inl ⟨s, rfl, hs⟩
    · obtain ⟨m, rfl, hm⟩ := from_of h
      exact .inr ⟨m, rfl, hm⟩
  · cases h
theorem look_mem {w : Str} : ∀ {l : List (Str × D)} {v : D}, lookS w l = some v → w ∈ l.map (·.1)
  | [], v, h => by cases h
  | (y, u) :: l, v, h => by
    simp only [lookS] at h
    split at h
    · rename_i e; subst e; simp
    · exact List.mem_cons_of_mem _ (look_mem h)
theorem dd_of {w : Str} {rest : List D} (h : deedB (.tuple (.str w :: rest)) = true) : Dd w rest := by
  have hmem : w ∈ kv_law_shapes.map (·.1) := by
    have h' : (match lookS w kv_law_shapes with | some (.str k) => decide (rest.length = k.length) && (List.range k.length).all fun i => partB (k.cps.toList.getD i 0) (rest.getD i .none) | _ => false) = true := h
    split at h'
    · rename_i k hk; exact look_mem hk
    · cases h'
  simp only [kv_law_shapes, List.map_cons, List.map_nil, List.mem_cons, List.not_mem_nil, or_false] at hmem
  rcases hmem with rfl | rfl | rfl | rfl | rfl | rfl | rfl | rfl | rfl | rfl | rfl
  · rw [sh_nop] at h
    obtain rfl := List.isEmpty_iff.mp h
    exact .nop
  · rw [sh_work] at h
    split at h
    · rename_i a
      cases a with
      | bool b => exact .work b
      | _ => cases h
    · cases h
  · rw [sh_read] at h
    split at h
    · rw [Bool.and_eq_true] at h
      obtain ⟨m, rfl, hm⟩ := from_of h.2
      exact .read _ m h.1 hm
    · cases h
  · rw [sh_reads] at h
    split at h
    · rw [Bool.and_eq_true] at h
      obtain ⟨m, rfl, hm⟩ := from_of h.2
      exact .reads _ m h.1 hm
    · cases h
  · rw [sh_write] at h
    split at h
    · rw [Bool.and_eq_true] at h
      obtain ⟨s, rfl, hs⟩ := word_of h.2
      exact .write _ s h.1 hs
    · cases h
  · rw [sh_shut] at h
    split at h
    · exact .shut _ h
    · cases h
  · rw [sh_timeout] at h
    split at h
    · obtain ⟨m, rfl, hm⟩ := from_of h
      exact .timeout m hm
    · cases h
  · rw [sh_linktimeout] at h
    split at h
    · obtain ⟨m, rfl, hm⟩ := from_of h
      exact .linktimeout m hm
    · cases h
  · rw [sh_cancel] at h
    split at h
    · obtain ⟨s, rfl, hs⟩ := word_of h
      exact .cancel s hs
    · cases h
  · rw [sh_cancelall] at h
    obtain rfl := List.isEmpty_iff.mp h
    exact .cancelall
  · rw [sh_update] at h
    split at h
    · rename_i a b
      rw [Bool.and_eq_true, Bool.or_eq_true] at h
      obtain ⟨m, rfl, hm⟩ := from_of h.1
      rcases h.2 with h2 | h2
      · cases b with
        | none => exact .upd0 m hm
        | _ => cases h2
      · obtain ⟨s, rfl, hs⟩ := word_of h2
        exact .upd1 m s hm hs
    · cases h
def silB (w : Str) (rest : List D) : Bool := match rest with
  | [] => w == wS "nop"
  | [.bool b] => w == wS "work" && b
  | _ => false
def readB (w : Str) : Bool := decide (w ∈ [wS "read", wS "reads"])
def flagsB (w : Str) (rest : List D) (fs : List Str) : Bool :=
  adjB fs && !(timerB w && !fs.isEmpty) && !(decide (wS "hard" ∈ fs) && decide (wS "link" ∈ fs)) && !(decide (wS "silent" ∈ fs) && !silB w rest) && (!decide (wS "pick" ∈ fs) || readB w)
theorem eqv_head {a b : Str} {xs ys : List D} : PyData.eqv (.tuple (.str a :: xs)) (.tuple (.str b :: ys)) = (a == b && PyData.eqvAll xs ys) := by
  rw [PyData.eqv, PyData.eqvAll]
  all_goals rfl
theorem sil_in {w : Str} {rest : List D} (h : Dd w rest) : (([.tuple [.str (wS "nop")], .tuple [.str (wS "work"), .bool true]] : List D).any fun y => PyData.eqv y (.tuple (.str w :: rest))) = silB w rest := by
  simp only [List.any_cons, List.any_nil, eqv_head, Bool.or_false]
  cases h with
  | work b => cases b <;> decide +kernel
  | nop => decide +kernel
  | cancelall => decide +kernel
  | read x m _ _ => rw [show (wS "nop" == wS "read") = false from by decide +kernel, show (wS "work" == wS "read") = false from by decide +kernel]; rcases wh_of (by assumption) with ⟨s, rfl, _⟩ | ⟨m, rfl, _⟩ <;> rfl
  | reads x m _ _ => rw [show (wS "nop" == wS "reads") = false from by decide +kernel, show (wS "work" == wS "reads") = false from by decide +kernel]; rcases wh_of (by assumption) with ⟨s, rfl, _⟩ | ⟨m, rfl, _⟩ <;> rfl
  | write x m _ _ => rw [show (wS "nop" == wS "write") = false from by decide +kernel, show (wS "work" == wS "write") = false from by decide +kernel]; rcases wh_of (by assumption) with ⟨s, rfl, _⟩ | ⟨m, rfl, _⟩ <;> rfl
  | shut x hx =>
    rw [show (wS "nop" == wS "shut") = false from by decide +kernel, show (wS "work" == wS "shut") = false from by decide +kernel]
    rcases wh_of hx with ⟨s, rfl, _⟩ | ⟨m, rfl, _⟩ <;> rfl
  | timeout m _ => rw [show (wS "nop" == wS "timeout") = false from by decide +kernel, show (wS "work" == wS "timeout") = false from by decide +kernel]; rfl
  | linktimeout m _ => rw [show (wS "nop" == wS "linktimeout") = false from by decide +kernel, show (wS "work" == wS "linktimeout") = false from by decide +kernel]; rfl
  | cancel m _ => rw [show (wS "nop" == wS "cancel") = false from by decide +kernel, show (wS "work" == wS "cancel") = false from by decide +kernel]; rfl
  | upd0 m _ => rw [show (wS "nop" == wS "update") = false from by decide +kernel, show (wS "work" == wS "update") = false from by decide +kernel]; rfl
  | upd1 m s _ _ => rw [show (wS "nop" == wS "update") = false from by decide +kernel, show (wS "work" == wS "update") = false from by decide +kernel]; rfl
end HL
namespace HL
open PySem PySem.Spec L2 DL
def whP : D → Option Str
  | .tuple [.str k, .str s] => if k = wS "pipe" then some s else none
  | _ => none
def whS : D → Option Int
  | .tuple [.str k, .int m] => if k = wS "slot" then some m else none
  | _ => none
def pipeV : List D → Option Str
  | [.int _, .str s] => some s
  | x :: _ => whP x
  | [] => none
def slotV : List D → Option Int
  | [.int m, .none] => some m
  | [.int m, .str _] => some m
  | x :: _ => whS x
  | [] => none
end HL
namespace HL
open PySem PySem.Spec L2 DL
structure Q0 where
  t : Str
  w : Str
  rest : List D
  fs : List Str
abbrev Q0.r (q : Q0) : D := mkR q.t (.tuple (.str q.w :: q.rest)) q.fs
structure Q0.Ok (q : Q0) : Prop where
  rq : Rq q.t q.w q.rest q.fs
  fl : q.fs.length ≤ 60
abbrev lotD (qs : List Q0) : D := .tuple (qs.map Q0.r)
def elders (qs : List Q0) (i : Nat) : List Q0 := (qs.take i).filter fun q => !timerB q.w
theorem last_at {α : Type} {xs : List α} {x : α} (h : xs.getLast? = some x) : atI xs (-1) = some x := by
  unfold atI
  rw [ixN_last (by cases xs with | nil => cases h | cons _ _ => simp)]
  rw [List.getLast?_eq_getElem?] at h
  exact h
/-- does a request stand right -/
def standsB (qs : List Q0) (i : Nat) (q : Q0) : Bool :=
  if timerB q.w then (match i with
    | 0 => false
    | j + 1 => match qs[j]? with
      | some p => !timerB p.w && linkB p.fs
      | none => false)
  else !(decide (wS "drain" ∈ q.fs) && (match (elders qs i).getLast? with | some a => linkB a.fs | none => false)) && (!linkB q.fs || decide (i + 1 < qs.length))
theorem ne_e {xs : List D} : fNe (.list xs) (.list []) = some (.bool (!xs.isEmpty)) := by
  rw [fNe_r (by decide)]
  cases xs <;> rfl
abbrev setD (a b : D) (ps : List Str) (sl : List D) : D := .tuple [a, b, .tuple (ps.map PyData.str), .tuple sl]
end HL
namespace HL
open PySem PySem.Spec L2 DL
def TupledOk (n : Nat) (F : FSem) : Prop := ∀ d, fit 1000 n d = true → F [.d d] = some (tupD d, [.d d])
theorem tupled_ok {n : Nat} {F : FSem} (h : ∀ m, n = m + 1 → TupledOk m F) : TupledOk n (r_tupled F) := by
  have node : ∀ (m : Nat) (d : D) (xs : List D), n = m + 1 → (d = .list xs ∨ d = .tuple xs) → xs.length ≤ 1000 → (∀ x ∈ xs, fit 1000 m x = true) → r_tupled F [.d d] = some (.tuple (tupL xs), [.d d]) := fun m d xs e hd hl hx => by
    have lc : lcLoop (.nm 1) tTrue (mFn F [(.sl 1)]) [1] xs [some (.d d), none] = some (xs.map tupD, [some (.d d), none]) := lc_map tupD fun x hx' => ⟨[some (.d d), some (.d x)], wo_eq (by simp [woA, given, gv1, back, bk1, pad, envOf, ioOk, setsE, Tgs.len, Tg.ix, Tgs.ix, wipeE, restore]), wo_eq (by simp [woA, given, gv1, back, bk1, pad, envOf, ioOk, setsE, Tgs.len, Tg.ix, Tgs.ix, wipeE, restore, h m e x (hx x hx')]), by simp [wipeE]⟩
    rw [tupL_map]
    refine wo_eq ?_
    unfold r_tupled b_tupled
    have hs : xs.length ≤ 16777216 := by omega
    rcases hd with rfl | rfl <;> simp [woA, given, gv1, back, bk1, pad, envOf, ioOk, setsE, Tgs.len, Tg.ix, Tgs.ix, wipeE, restore, lc, hs]
  have leaf : ∀ (d : D), isT2 "list" "tuple" d = some false → tupD d = d → r_tupled F [.d d] = some (tupD d, [.d d]) := fun d e1 e2 => by
    refine wo_eq ?_
    unfold r_tupled b_tupled
    simp [woA, given, gv1, back, bk1, pad, envOf, ioOk, setsE, Tgs.len, Tg.ix, Tgs.ix, wipeE, restore, e1, e2]
  intro d hf
  cases d with
  | none => exact leaf _ (by simp [isT2, isT]) rfl
  | bool b => exact leaf _ (by simp [isT2, isT]) rfl
  | int b => exact leaf _ (by simp [isT2, isT]) rfl
  | str b => exact leaf _ (by simp [isT2, isT]) rfl
  | dict _ => exact (fit_dict hf).elim
  | list xs =>
    obtain ⟨m, e, h1, h2⟩ := fit_list hf
    exact node m _ xs e (.inl rfl) h1 h2
  | tuple xs =>
    obtain ⟨m, e, h1, h2⟩ := fit_tuple hf
    exact node m _ xs e (.inr rfl) h1 h2
end HL
namespace HL
open PySem PySem.Spec L2 DL
def OfNOk (F : FSem) : Prop := ∀ (t : Nat) (b : List D) (xs : List D) (Q : D × List Sl → Prop), Box t b → t ≤ 1000000000 → 0 < xs.length → xs.length < 1000000 →
  (∀ v b', Box (t + 1) b' → v ∈ xs → Q (v, [.own b', .own xs])) → wo (F [.own b, .own xs]) Q
theorem ofN_ok {T : FSem} (hT : TakeOk T) : OfNOk (r_law_of T) := by
  intro t b xs Q hb ht hl0 hl hq
  unfold r_law_of b_law_of
  simp [woA, given, gv1, back, bk1, pad, envOf, ioOk, setsE, Tgs.len, Tg.ix, Tgs.ix, wipeE, restore]
  refine hT t b _ _ hb ht (by omega) (by omega) fun v b' hb' h0 h1 => ?_
  obtain ⟨y, e, _, hy⟩ := atI_in h0 h1
  simp [woA, given, gv1, back, bk1, pad, envOf, ioOk, setsE, Tgs.len, Tg.ix, Tgs.ix, wipeE, restore, e]
  exact hq _ _ hb' hy
def PlaceD (ps : List Str) (n : Nat) (x : D) : Prop := (∃ p ∈ ps, x = .tuple [.str (wS "pipe"), .str p]) ∨ ∃ j : Int, 0 ≤ j ∧ j < n ∧ x = .tuple [.str (wS "slot"), .int j]
def PlaceOk (F : FSem) : Prop := ∀ (t : Nat) (b : List D) (sp ro : Int) (ps : List Str) (sl : List (Option Str)) (Q : D × List Sl → Prop), Box t b → SetupOk 1 sp ro ps sl → t + 3 ≤ 1000000000 →
  (∀ x b', Box (t + 3) b' → PlaceD ps sl.length x → Q (x, [.own b', .d (mkSetup sp ro ps sl)])) → wo (F [.own b, .d (mkSetup sp ro ps sl)]) Q
theorem ne_t {xs : List D} : fNe (.tuple xs) (.tuple []) = some (.bool (!xs.isEmpty)) := by
  rw [fNe_r (by decide)]
  cases xs <;> rfl
theorem place_ok {T O : FSem} (hT : TakeOk T) (hO : OfOk O) : PlaceOk (r_law_place T O) := by
  intro t b sp ro ps sl Q hb hs ht hq
  unfold r_law_place b_law_place
  have c1 : cutG [PyData.int sp, .int ro, .tuple (ps.map PyData.str), .tuple (sl.map optD)] (some 2) none = [.tuple (ps.map PyData.str), .tuple (sl.map optD)] := rfl
  have lz : (sl.map optD).length = sl.length := by simp
  have lp : (ps.map PyData.str).length = ps.length := by simp
  have memp : ∀ v, v ∈ ps.map PyData.str → ∃ p ∈ ps, v = .str p := fun v hv => by
    obtain ⟨p, hp, rfl⟩ := List.mem_map.mp hv; exact ⟨p, hp, rfl⟩
  have h1 := hs.least
  have h4 := hs.most
  have h5 := hs.slen
  unfold mkSetup at *
  generalize ps.map PyData.str = P at *
  generalize sl.map optD = Z at *
  have pipe : ∀ (u : Nat) (bb : List D) (Q' : D × List Sl → Prop), Box u bb → u ≤ t + 1 → (∀ p b', p ∈ ps → Box (u + 1) b' → Q' (.str p, [.own b', .d (.tuple P)])) → wo (O [.own bb, .d (.tuple P)]) Q' := fun u bb Q' hbb hu hq' => by
    refine hO u bb _ P _ hbb (by omega) (.inr rfl) (by omega) (by omega) fun v b2 hb2 hv => ?_
    obtain ⟨p, hp, rfl⟩ := memp v hv
    exact hq' p b2 hp hb2
  cases hz : Z.isEmpty with
  | true =>
    simp [woA, given, gv1, back, bk1, pad, envOf, ioOk, setsE, Tgs.len, Tg.ix, Tgs.ix, wipeE, restore, c1, ne_t, hz]
    refine pipe t b _ hb (by omega) fun p b2 hp hb2 => ?_
    simp [woA, given, gv1, back, bk1, pad, envOf, ioOk, setsE, Tgs.len, Tg.ix, Tgs.ix, wipeE, restore]
    exact hq _ _ (hb2.mono (by omega)) (.inl ⟨p, hp, rfl⟩)
  | false =>
    have z0 : 0 < Z.length := by cases Z with | nil => cases hz | cons _ _ => simp
    simp [woA, given, gv1, back, bk1, pad, envOf, ioOk, setsE, Tgs.len, Tg.ix, Tgs.ix, wipeE, restore, c1, ne_t, hz]
    refine hT t b 2 _ hb (by omega) (by omega) (by omega) fun v b1 hb1 v0 v1 => ?_
    by_cases hv : v = 0
    · simp [woA, given, gv1, back, bk1, pad, envOf, ioOk, setsE, Tgs.len, Tg.ix, Tgs.ix, wipeE, restore, hv]
      refine hT _ b1 _ _ hb1 (by omega) (by omega) (by omega) fun j b2 hb2 j0 j1 => ?_
      simp [woA, given, gv1, back, bk1, pad, envOf, ioOk, setsE, Tgs.len, Tg.ix, Tgs.ix, wipeE, restore]
      exact hq _ _ (hb2.mono (by omega)) (.inr ⟨j, j0, by omega, rfl⟩)
    · simp [woA, given, gv1, back, bk1, pad, envOf, ioOk, setsE, Tgs.len, Tg.ix, Tgs.ix, wipeE, restore, hv]
      refine pipe _ b1 _ hb1 (by omega) fun p b2 hp hb2 => ?_
      simp [woA, given, gv1, back, bk1, pad, envOf, ioOk, setsE, Tgs.len, Tg.ix, Tgs.ix, wipeE, restore]
      exact hq _ _ (hb2.mono (by omega)) (.inl ⟨p, hp, rfl⟩)
def AbcOk (F : FSem) : Prop := ∀ (t : Nat) (b : List D) (m : Nat) (Q : D × List Sl → Prop), Box t b → 1 ≤ m → m ≤ 6 → t + 7 ≤ 1000000000 →
  (∀ s b', Box (t + 7) b' → wordB m s = true → Q (.str s, [.own b', .d (.int m)])) → wo (F [.own b, .d (.int m)]) Q
theorem abc_let : ∀ c ∈ (Str.ofString "abc").cps.toList, letB c = true := by decide +kernel
theorem abc_len : (Str.ofString "abc").length = 3 := by decide +kernel
theorem abc_ok {T O : FSem} (hT : TakeOk T) (hS : OfSOk O) : AbcOk (r_law_letters T O) := by
  intro t b m Q hb m1 m6 ht hq
  unfold r_law_letters b_law_letters
  simp [woA, given, gv1, back, bk1, pad, envOf, ioOk, setsE, Tgs.len, Tg.ix, Tgs.ix, wipeE, restore]
  refine hT t b m _ hb (by omega) (by omega) (by omega) fun k b2 hb2 k0 k1 => ?_
  simp [woA, given, gv1, back, bk1, pad, envOf, ioOk, setsE, Tgs.len, Tg.ix, Tgs.ix, wipeE, restore, rangeD_len]
  refine ⟨by omega, by omega, ?_⟩
  obtain ⟨I, hI⟩ : ∃ I : List D → List D → DL.Env → Prop, ∀ ds ys r, I ds ys r ↔ ∃ (b' : List D) (cs : List Nat), r = [some (.own b'), some (.d (.int m)), none] ∧ ys = cs.map (fun c => .str (sgn c)) ∧ Box (t + 1 + cs.length) b' ∧ cs.length + ds.length = (1 + k).toNat ∧ ∀ c ∈ cs, letB c = true := ⟨_, fun _ _ _ => Iff.rfl⟩
  refine lc_inv I ?_ _ _ ((hI _ _ _).mpr ⟨b2, [], rfl, rfl, hb2, by simp [rangeD_len], by simp⟩) ?_
  · intro d ds ys r h
    obtain ⟨b', cs, rfl, rfl, hb', hl, hc⟩ := (hI _ _ _).mp h
    simp only [List.length_cons] at hl
    simp [woA, given, gv1, back, bk1, pad, envOf, ioOk, setsE, Tgs.len, Tg.ix, Tgs.ix, wipeE, restore]
    refine hS (t + 1 + cs.length) b' _ _ hb' (by omega) (by rw [abc_len]; omega) (by rw [abc_len]; omega) fun c b3 hb3 h3 => ?_
    simp [woA, given, gv1, back, bk1, pad, envOf, ioOk, setsE, Tgs.len, Tg.ix, Tgs.ix, wipeE, restore]
    exact (hI _ _ _).mpr ⟨b3, cs ++ [c], rfl, by simp, by simpa [Nat.add_assoc] using hb3, by simp; omega, fun z hz => by
      rcases List.mem_append.mp hz with hz | hz
      · exact hc z hz
      · cases List.mem_singleton.mp hz; exact abc_let _ h3⟩
  · intro ys r h
    obtain ⟨b', cs, rfl, rfl, hb', hl, hc⟩ := (hI _ _ _).mp h
    simp only [List.length_nil, Nat.add_zero] at hl
    simp [woA, given, gv1, back, bk1, pad, envOf, ioOk, setsE, Tgs.len, Tg.ix, Tgs.ix, wipeE, restore, texts_sgn]
    refine ⟨joinOk_sgn (by omega) fun c h => Nat.lt_trans (let_lt (hc c h)) (by decide), hq _ _ (hb'.mono (by omega)) ?_⟩
    unfold wordB
    rw [len_tl, join_sgn]
    simp
    exact ⟨⟨by omega, by omega⟩, hc⟩
/-- a drawn deed: right for the setup, never a timer -/
structure DeedD (ps : List Str) (n : Nat) (w : Str) (rest : List D) : Prop where
  deed : deedB (.tuple (.str w :: rest)) = true
  pipe : ∀ p, pipeV rest = some p → p ∈ ps
  slot : ∀ s, slotV rest = some s → s < n
  nt : timerB w = false
  nice : nice 1000 59 2 (.tuple (.str w :: rest)) = true
  wt : wt (.tuple (.str w :: rest)) ≤ 400
def LawDeedOk (F : FSem) : Prop := ∀ (t : Nat) (b : List D) (sp ro : Int) (ps : List Str) (sl : List (Option Str)) (gs : List Str) (Q : D × List Sl → Prop), Box t b → SetupOk 1 sp ro ps sl → t + 20 ≤ 1000000000 → (∀ g ∈ gs, wordB 8 g = true) → gs.length ≤ 1000 →
  (∀ w rest b', Box (t + 20) b' → DeedD ps sl.length w rest → Q (.tuple (.str w :: rest), [.own b', .d (mkSetup sp ro ps sl), .own (gs.map PyData.str)])) → wo (F [.own b, .d (mkSetup sp ro ps sl), .own (gs.map PyData.str)]) Q
end HL
namespace HL
open PySem PySem.Spec L2 DL
theorem word_asc {m : Nat} {s : Str} (h : wordB m s = true) : ascB s = true ∧ s.length ≤ m := by
  unfold wordB at h
  simp only [Bool.and_eq_true, decide_eq_true_eq] at h
  refine ⟨?_, h.1.2⟩
  unfold ascB
  rw [List.all_eq_true]
  intro c hc
  exact decide_eq_true (let_lt (List.all_eq_true.mp h.2 c hc))
theorem nw_str {m n : Nat} {s : Str} (h : wordB m s = true) (hm : m ≤ 8) : nice 1000 59 n (.str s) = true ∧ wt (.str s) ≤ 82 := by
  obtain ⟨h1, h2⟩ := word_asc h
  refine ⟨by rw [nice_str, h1]; simp; omega, ?_⟩
  show 10 * s.length + 2 ≤ 82
  omega
theorem nw_int {n : Nat} {i : Int} (h0 : 0 ≤ i) (h1 : i ≤ 1000) : nice 1000 59 n (.int i) = true ∧ wt (.int i) ≤ 13 := by
  refine ⟨by rw [nice_int]; simp; omega, ?_⟩
  show i.natAbs.log2 + 3 ≤ 13
  by_cases hz : i.natAbs = 0
  · rw [hz]; decide
  · have := (Nat.log2_lt (k := 10) hz).mpr (by omega)
    omega
structure PlaceF (ps : List Str) (n : Nat) (x : D) : Prop where
  wh : whB x = true
  nice : nice 1000 59 1 x = true
  wt : wt x ≤ 150
  pipe : ∀ p, whP x = some p → p ∈ ps
  slot : ∀ s, whS x = some s → s < n
theorem place_facts {ps : List Str} {n : Nat} {x : D} (hw : ∀ s ∈ ps, wordB 8 s = true) (hn : n ≤ 100) (h : PlaceD ps n x) : PlaceF ps n x := by
  rcases h with ⟨p, hp, rfl⟩ | ⟨j, j0, j1, rfl⟩
  · have h8 := hw p hp
    obtain ⟨a, b⟩ := nw_str (n := 0) h8 (Nat.le_refl 8)
    have c : HL.nice 1000 59 0 (.str (wS "pipe")) = true ∧ DL.wt (.str (wS "pipe")) = 42 := by decide +kernel
    refine ⟨?_, (nice_seq (.inr rfl)).mpr ⟨0, rfl, by simp, ?_⟩, ?_, ?_, ?_⟩
    · simp [whB, wordD, h8]
    · intro y hy
      simp at hy
      rcases hy with rfl | rfl
      · exact c.1
      · exact a
    · rw [wt_seq (.inr rfl), wtAll, wtAll, wtAll, c.2]; omega
    · intro q hq
      simp [whP] at hq
      exact hq ▸ hp
    · intro s hs
      simp [whS] at hs
  · obtain ⟨a, b⟩ := nw_int (n := 0) j0 (by omega)
    have c : HL.nice 1000 59 0 (.str (wS "slot")) = true ∧ DL.wt (.str (wS "slot")) = 42 := by decide +kernel
    refine ⟨?_, (nice_seq (.inr rfl)).mpr ⟨0, rfl, by simp, ?_⟩, ?_, ?_, ?_⟩
    · simp [whB, fromB, j0]
    · intro y hy
      simp at hy
      rcases hy with rfl | rfl
      · exact c.1
      · exact a
    · rw [wt_seq (.inr rfl), wtAll, wtAll, wtAll, c.2]; omega
    · intro q hq
      simp [whP] at hq
    · intro s hs
      simp [whS] at hs
      omega
/-- deeds of one, two, three members -/
theorem deed1 {ps : List Str} {n : Nat} {w : Str} (hd : deedB (.tuple [.str w]) = true) (ht : timerB w = false) (hw : nice 1000 59 1 (.str w) = true ∧ wt (.str w) ≤ 112) : DeedD ps n w [] :=
  ⟨hd, by simp [pipeV], by simp [slotV], ht, (nice_seq (.inr rfl)).mpr ⟨1, rfl, by simp, by simp [hw.1]⟩, by rw [wt_seq (.inr rfl), wtAll, wtAll]; omega⟩
theorem deed2 {ps : List Str} {n : Nat} {w : Str} {x : D} (hd : deedB (.tuple [.str w, x]) = true) (ht : timerB w = false) (hw : nice 1000 59 1 (.str w) = true ∧ wt (.str w) ≤ 112) (hx : nice 1000 59 1 x = true) (hx' : wt x ≤ 150) (h1 : ∀ p, whP x = some p → p ∈ ps) (h2 : ∀ s, whS x = some s → s < n) : DeedD ps n w [x] :=
  ⟨hd, by intro p hp; refine h1 p ?_; rw [← hp]; cases x <;> rfl, by intro p hp; refine h2 p ?_; rw [← hp]; cases x <;> rfl, ht, (nice_seq (.inr rfl)).mpr ⟨1, rfl, by simp, by simp [hw.1, hx]⟩, by rw [wt_seq (.inr rfl), wtAll, wtAll, wtAll]; omega⟩
theorem deed3 {ps : List Str} {n : Nat} {w : Str} {x y : D} (hd : deedB (.tuple [.str w, x, y]) = true) (ht : timerB w = false) (hw : nice 1000 59 1 (.str w) = true ∧ wt (.str w) ≤ 112) (hx : nice 1000 59 1 x = true) (hx' : wt x ≤ 150) (hy : nice 1000 59 1 y = true) (hy' : wt y ≤ 82) (h1 : ∀ p, pipeV [x, y] = some p → p ∈ ps) (h2 : ∀ s, slotV [x, y] = some s → s < n) : DeedD ps n w [x, y] :=
  ⟨hd, h1, h2, ht, (nice_seq (.inr rfl)).mpr ⟨1, rfl, by simp, by simp [hw.1, hx, hy]⟩, by rw [wt_seq (.inr rfl), wtAll, wtAll, wtAll, wtAll]; omega⟩
theorem kw_read : timerB (wS "read") = false ∧ nice 1000 59 1 (.str (wS "read")) = true ∧ wt (.str (wS "read")) ≤ 112 := by decide +kernel
theorem kw_reads : timerB (wS "reads") = false ∧ nice 1000 59 1 (.str (wS "reads")) = true ∧ wt (.str (wS "reads")) ≤ 112 := by decide +kernel
theorem kw_write : timerB (wS "write") = false ∧ nice 1000 59 1 (.str (wS "write")) = true ∧ wt (.str (wS "write")) ≤ 112 := by decide +kernel
theorem kw_shut : timerB (wS "shut") = false ∧ nice 1000 59 1 (.str (wS "shut")) = true ∧ wt (.str (wS "shut")) ≤ 112 := by decide +kernel
theorem kw_timeout : timerB (wS "timeout") = false ∧ nice 1000 59 1 (.str (wS "timeout")) = true ∧ wt (.str (wS "timeout")) ≤ 112 := by decide +kernel
theorem kw_work : timerB (wS "work") = false ∧ nice 1000 59 1 (.str (wS "work")) = true ∧ wt (.str (wS "work")) ≤ 112 := by decide +kernel
theorem kw_update : timerB (wS "update") = false ∧ nice 1000 59 1 (.str (wS "update")) = true ∧ wt (.str (wS "update")) ≤ 112 := by decide +kernel
theorem kw_cancel : timerB (wS "cancel") = false ∧ nice 1000 59 1 (.str (wS "cancel")) = true ∧ wt (.str (wS "cancel")) ≤ 112 := by decide +kernel
theorem kw_cancelall : timerB (wS "cancelall") = false ∧ nice 1000 59 1 (.str (wS "cancelall")) = true ∧ wt (.str (wS "cancelall")) ≤ 112 := by decide +kernel
theorem kw_nop : timerB (wS "nop") = false ∧ nice 1000 59 1 (.str (wS "nop")) = true ∧ wt (.str (wS "nop")) ≤ 112 := by decide +kernel
theorem pv_wh {x y : D} (h : whB x = true) : pipeV [x, y] = whP x ∧ slotV [x, y] = whS x := by
  rcases wh_of h with ⟨s, rfl, _⟩ | ⟨s, rfl, _⟩ <;> exact ⟨rfl, rfl⟩
theorem d_read {ps n x} {w : Str} {m : Int} (hw : w = wS "read" ∨ w = wS "reads") (h : PlaceF ps n x) (h1 : 1 ≤ m) (h2 : m ≤ 1000) : DeedD ps n w [x, .int m] := by
  have nm := nw_int (n := 1) (i := m) (by omega) h2
  have pv := pv_wh (y := .int m) h.wh
  rcases hw with rfl | rfl
  · exact deed3 (by rw [sh_read]; simp [h.wh, fromB, h1]) kw_read.1 kw_read.2 h.nice h.wt nm.1 (by have := nm.2; omega) (by rw [pv.1]; exact h.pipe) (by rw [pv.2]; exact h.slot)
  · exact deed3 (by rw [sh_reads]; simp [h.wh, fromB, h1]) kw_reads.1 kw_reads.2 h.nice h.wt nm.1 (by have := nm.2; omega) (by rw [pv.1]; exact h.pipe) (by rw [pv.2]; exact h.slot)
theorem wordB_mono {m m' : Nat} {s : Str} (h : wordB m s = true) (hm : m ≤ m') : wordB m' s = true := by
  unfold wordB at *
  simp only [Bool.and_eq_true, decide_eq_true_eq] at *
  exact ⟨⟨h.1.1, by omega⟩, h.2⟩
theorem d_write {ps n x} {s : Str} (h : PlaceF ps n x) (hs : wordB 3 s = true) : DeedD ps n (wS "write") [x, .str s] := by
  have nm := nw_str (n := 1) hs (by omega)
  have pv := pv_wh (y := .str s) h.wh
  exact deed3 (by rw [sh_write]; simp [h.wh, wordD, wordB_mono hs (show 3 ≤ 6 by omega)]) kw_write.1 kw_write.2 h.nice h.wt nm.1 nm.2 (by rw [pv.1]; exact h.pipe) (by rw [pv.2]; exact h.slot)
theorem d_shut {ps n x} (h : PlaceF ps n x) : DeedD ps n (wS "shut") [x] :=
  deed2 (by rw [sh_shut]; simp [h.wh]) kw_shut.1 kw_shut.2 h.nice h.wt h.pipe h.slot
theorem d_timeout {ps n} {m : Int} (h1 : 0 ≤ m) (h2 : m ≤ 1000) : DeedD ps n (wS "timeout") [.int m] := by
  have nm := nw_int (n := 1) h1 h2
  exact deed2 (by rw [sh_timeout]; simp [fromB, h1]) kw_timeout.1 kw_timeout.2 nm.1 (by have := nm.2; omega) (by simp [whP]) (by simp [whS])
theorem d_work {ps n} {b : Bool} : DeedD ps n (wS "work") [.bool b] :=
  deed2 (by rw [sh_work]; rfl) kw_work.1 kw_work.2 nice_bool (by show 5 ≤ 150; omega) (by simp [whP]) (by simp [whS])
theorem d_cancel {ps n} {s : Str} (hs : wordB 8 s = true) : DeedD ps n (wS "cancel") [.str s] := by
  have nm := nw_str (n := 1) hs (by omega)
  exact deed2 (by rw [sh_cancel]; simp [wordD, hs]) kw_cancel.1 kw_cancel.2 nm.1 (by have := nm.2; omega) (by simp [whP]) (by simp [whS])
theorem d_cancelall {ps n} : DeedD ps n (wS "cancelall") [] := deed1 (by rw [sh_cancelall]; rfl) kw_cancelall.1 kw_cancelall.2
theorem d_nop {ps n} : DeedD ps n (wS "nop") [] := deed1 (by rw [sh_nop]; rfl) kw_nop.1 kw_nop.2
theorem d_update {ps : List Str} {n : Nat} {m : Int} {o : Option Str} (h1 : 0 ≤ m) (h2 : m < n) (hn : n ≤ 100) (hw : ∀ s ∈ ps, wordB 8 s = true) (ho : ∀ s, o = some s → s ∈ ps) : DeedD ps n (wS "update") [.int m, optD o] := by
  have nm := nw_int (n := 1) (i := m) h1 (by omega)
  cases o with
  | none => exact deed3 (by rw [sh_update]; simp [fromB, h1, optD, isNone]) kw_update.1 kw_update.2 nm.1 (by have := nm.2; omega) nice_none (by show 4 ≤ 82; omega) (by simp [pipeV, optD, whP]) (by simp [slotV, optD]; omega)
  | some s =>
    have h8 := hw s (ho s rfl)
    have ns := nw_str (n := 1) h8 (by omega)
    exact deed3 (by rw [sh_update]; simp [fromB, h1, optD, isNone, wordD, h8]) kw_update.1 kw_update.2 nm.1 (by have := nm.2; omega) ns.1 ns.2 (by simp [pipeV, optD]; exact ho s rfl) (by simp [slotV, optD]; omega)
theorem law_deed_ok {T O P L : FSem} (hT : TakeOk T) (hO : OfOk O) (hN : OfNOk O) (hP : PlaceOk P) (hL : AbcOk L) : LawDeedOk (r_law_deed T O P L) := by
  intro t b sp ro ps sl gs Q hb hs ht hg hgl hq
  have hsl := hs.slen
  have hpl := hs.most
  unfold r_law_deed b_law_deed
  have hp1 := hP
  have hneg : ∀ (xs : List D), fNe (.list xs) (.list []) = some (.bool (!xs.isEmpty)) := fun xs => ne_e
  have memg : ∀ v, v ∈ gs.map PyData.str → ∃ p ∈ gs, v = .str p := fun v hv => by
    obtain ⟨p, hp, rfl⟩ := List.mem_map.mp hv; exact ⟨p, hp, rfl⟩
  have gl : (gs.map PyData.str).length = gs.length := by simp
  generalize gs.map PyData.str = G at *
  simp [woA, given, gv1, back, bk1, pad, envOf, ioOk, setsE, Tgs.len, Tg.ix, Tgs.ix, wipeE, restore]
  refine hT t b 20 _ hb (by omega) (by omega) (by omega) fun v b1 hb1 v0 v1 => ?_
  simp [woA, given, gv1, back, bk1, pad, envOf, ioOk, setsE, Tgs.len, Tg.ix, Tgs.ix, wipeE, restore]
  refine hP _ b1 sp ro ps sl _ hb1 hs (by omega) fun x b2 hb2 hx => ?_
  have px := place_facts hs.word (by omega) hx
  simp [woA, given, gv1, back, bk1, pad, envOf, ioOk, setsE, Tgs.len, Tg.ix, Tgs.ix, wipeE, restore]
  by_cases h5 : v < 5
  · have go : ∀ w, (w = wS "read" ∨ w = wS "reads") → wo (T [.own b2, .d (.int 3)]) fun z => ∃ m b3, z = (.int m, [.own b3, .d (.int 3)]) ∧ Box (t + 1 + 3 + 1) b3 ∧ DeedD ps sl.length w [x, .int (1 + m)] := fun w hw =>
      hT _ b2 3 _ hb2 (by omega) (by omega) (by omega) fun m b3 hb3 m0 m1 => ⟨m, b3, rfl, hb3, d_read hw px (by omega) (by omega)⟩
    by_cases h4 : v < 4
    · simp [woA, given, gv1, back, bk1, pad, envOf, ioOk, setsE, Tgs.len, Tg.ix, Tgs.ix, wipeE, restore, h5, h4]
      refine wo_mono (go _ (.inl rfl)) ?_
      rintro _ ⟨m, b3, rfl, hb3, hd⟩
      simp [woA, given, gv1, back, bk1, pad, envOf, ioOk, setsE, Tgs.len, Tg.ix, Tgs.ix, wipeE, restore]
      exact hq _ _ b3 (hb3.mono (by omega)) hd
    · simp [woA, given, gv1, back, bk1, pad, envOf, ioOk, setsE, Tgs.len, Tg.ix, Tgs.ix, wipeE, restore, h5, h4]
      refine wo_mono (go _ (.inr rfl)) ?_
      rintro _ ⟨m, b3, rfl, hb3, hd⟩
      simp [woA, given, gv1, back, bk1, pad, envOf, ioOk, setsE, Tgs.len, Tg.ix, Tgs.ix, wipeE, restore]
      exact hq _ _ b3 (hb3.mono (by omega)) hd
  by_cases h8 : v < 8
  · simp [woA, given, gv1, back, bk1, pad, envOf, ioOk, setsE, Tgs.len, Tg.ix, Tgs.ix, wipeE, restore, h5, h8]
    refine hL _ b2 3 _ hb2 (by omega) (by omega) (by omega) fun s b3 hb3 w3 => ?_
    simp [woA, given, gv1, back, bk1, pad, envOf, ioOk, setsE, Tgs.len, Tg.ix, Tgs.ix, wipeE, restore]
    exact hq _ _ b3 (hb3.mono (by omega)) (d_write px w3)
  by_cases h88 : v = 8
  · subst h88
    simp [woA, given, gv1, back, bk1, pad, envOf, ioOk, setsE, Tgs.len, Tg.ix, Tgs.ix, wipeE, restore]
    exact hq _ _ b2 (hb2.mono (by omega)) (d_shut px)
  by_cases h11 : v < 11
  · simp [woA, given, gv1, back, bk1, pad, envOf, ioOk, setsE, Tgs.len, Tg.ix, Tgs.ix, wipeE, restore, h5, h8, h88, h11]
    refine hT _ b2 9 _ hb2 (by omega) (by omega) (by omega) fun m b3 hb3 m0 m1 => ?_
    simp [woA, given, gv1, back, bk1, pad, envOf, ioOk, setsE, Tgs.len, Tg.ix, Tgs.ix, wipeE, restore]
    exact hq _ _ b3 (hb3.mono (by omega)) (d_timeout m0 (by omega))
  by_cases h13 : v < 13
  · simp [woA, given, gv1, back, bk1, pad, envOf, ioOk, setsE, Tgs.len, Tg.ix, Tgs.ix, wipeE, restore, h5, h8, h88, h11, h13]
    refine hT _ b2 3 _ hb2 (by omega) (by omega) (by omega) fun m b3 hb3 m0 m1 => ?_
    simp [woA, given, gv1, back, bk1, pad, envOf, ioOk, setsE, Tgs.len, Tg.ix, Tgs.ix, wipeE, restore]
    exact hq _ _ b3 (hb3.mono (by omega)) d_work
  have lz : (sl.map optD).length = sl.length := by simp
  have lp : (ps.map PyData.str).length = ps.length := by simp
  have memp : ∀ v, v ∈ ps.map PyData.str ++ [.none] → ∃ o : Option Str, v = optD o ∧ ∀ s, o = some s → s ∈ ps := fun v hv => by
    rcases List.mem_append.mp hv with hv | hv
    · obtain ⟨p, hp, rfl⟩ := List.mem_map.mp hv
      exact ⟨some p, rfl, fun z hz => by cases hz; exact hp⟩
    · cases List.mem_singleton.mp hv
      exact ⟨none, rfl, fun z hz => by cases hz⟩
  unfold mkSetup at *
  generalize ps.map PyData.str = P' at *
  generalize sl.map optD = Z at *
  have l2 : P'.length + 1 ≤ 16777216 := by omega
  have fin : ∀ (c : Bool), (v < 15 → Z.isEmpty = true) → True := fun _ _ => trivial
  by_cases h15 : v < 15 ∧ Z.isEmpty = false
  · obtain ⟨h15, hz⟩ := h15
    have z0 : 0 < Z.length := by cases Z with | nil => cases hz | cons _ _ => simp
    simp [woA, given, gv1, back, bk1, pad, envOf, ioOk, setsE, Tgs.len, Tg.ix, Tgs.ix, wipeE, restore, h5, h8, h88, h11, h13, h15, ne_t, hz]
    refine hT _ b2 _ _ hb2 (by omega) (by omega) (by omega) fun m b3 hb3 m0 m1 => ?_
    simp [woA, given, gv1, back, bk1, pad, envOf, ioOk, setsE, Tgs.len, Tg.ix, Tgs.ix, wipeE, restore]
    refine ⟨by omega, ?_⟩
    refine hO _ b3 _ _ _ hb3 (by omega) (.inr rfl) (by simp) (by simp; omega) fun w b4 hb4 hw => ?_
    obtain ⟨o, rfl, ho⟩ := memp w hw
    simp [woA, given, gv1, back, bk1, pad, envOf, ioOk, setsE, Tgs.len, Tg.ix, Tgs.ix, wipeE, restore]
    exact hq _ _ b4 (hb4.mono (by omega)) (d_update m0 (by omega) (by omega) hs.word ho)
  · by_cases h18 : v < 18 ∧ G.isEmpty = false
    · obtain ⟨h18, hz⟩ := h18
      have z0 : 0 < G.length := by cases G with | nil => cases hz | cons _ _ => simp
      have go : wo (O [.own b2, .own G]) fun z => ∃ g b3, z = (.str g, [.own b3, .own G]) ∧ Box (t + 20) b3 ∧ DeedD ps sl.length (wS "cancel") [.str g] :=
        hN _ b2 _ _ hb2 (by omega) z0 (by omega) fun g b3 hb3 hgm => by
          obtain ⟨p, hp, rfl⟩ := memg g hgm
          exact ⟨p, b3, rfl, hb3.mono (by omega), d_cancel (hg p hp)⟩
      by_cases h15' : v < 15
      · have hz' : Z.isEmpty = true := by cases h : Z.isEmpty with | true => rfl | false => exact (h15 ⟨h15', h⟩).elim
        simp [woA, given, gv1, back, bk1, pad, envOf, ioOk, setsE, Tgs.len, Tg.ix, Tgs.ix, wipeE, restore, h5, h8, h88, h11, h13, h15', ne_t, hz', h18, ne_e, hz]
        refine wo_mono go ?_
        rintro _ ⟨g, b3, rfl, hb3, hd⟩
        simp [woA, given, gv1, back, bk1, pad, envOf, ioOk, setsE, Tgs.len, Tg.ix, Tgs.ix, wipeE, restore]
        exact hq _ _ b3 hb3 hd
      · simp [woA, given, gv1, back, bk1, pad, envOf, ioOk, setsE, Tgs.len, Tg.ix, Tgs.ix, wipeE, restore, h5, h8, h88, h11, h13, h15', h18, ne_e, hz]
        refine wo_mono go ?_
        rintro _ ⟨g, b3, rfl, hb3, hd⟩
        simp [woA, given, gv1, back, bk1, pad, envOf, ioOk, setsE, Tgs.len, Tg.ix, Tgs.ix, wipeE, restore]
        exact hq _ _ b3 hb3 hd
    · have e1 : v < 15 → Z.isEmpty = true := fun h => by cases hh : Z.isEmpty with | true => rfl | false => exact (h15 ⟨h, hh⟩).elim
      have e2 : v < 18 → G.isEmpty = true := fun h => by cases hh : G.isEmpty with | true => rfl | false => exact (h18 ⟨h, hh⟩).elim
      by_cases k15 : v < 15
      · have k18 : v < 18 := by omega
        have kk : ¬ v = 18 := by omega
        simp [woA, given, gv1, back, bk1, pad, envOf, ioOk, setsE, Tgs.len, Tg.ix, Tgs.ix, wipeE, restore, h5, h8, h88, h11, h13, k15, k18, kk, ne_t, e1 k15, ne_e, e2 k18]
        exact hq _ _ b2 (hb2.mono (by omega)) d_nop
      · by_cases k18 : v < 18
        · have kk : ¬ v = 18 := by omega
          simp [woA, given, gv1, back, bk1, pad, envOf, ioOk, setsE, Tgs.len, Tg.ix, Tgs.ix, wipeE, restore, h5, h8, h88, h11, h13, k15, k18, kk, ne_t, ne_e, e2 k18]
          exact hq _ _ b2 (hb2.mono (by omega)) d_nop
        · by_cases kk : v = 18
          · simp [woA, given, gv1, back, bk1, pad, envOf, ioOk, setsE, Tgs.len, Tg.ix, Tgs.ix, wipeE, restore, h5, h8, h88, h11, h13, k15, k18, kk, ne_t, ne_e]
            exact hq _ _ b2 (hb2.mono (by omega)) d_cancelall
          · simp [woA, given, gv1, back, bk1, pad, envOf, ioOk, setsE, Tgs.len, Tg.ix, Tgs.ix, wipeE, restore, h5, h8, h88, h11, h13, k15, k18, kk, ne_t, ne_e]
            exact hq _ _ b2 (hb2.mono (by omega)) d_nop
end HL
namespace HL
open PySem PySem.Spec L2 DL
def lotE (b : List D) (S : D) (N G : List D) (m : D) (B : List D) (f : Bool) (u t : D) (W : List D) (d v tm : Option D) : DL.Env :=
  [some (.own b), some (.d S), some (.own N), some (.own G), some (.d m), some (.own B), some (.d (.bool f)), some (.d u), some (.d t), some (.own W), d.map .d, v.map .d, tm.map .d]
def stDrain (T : FSem) : SS := (sIf (tAndM (mTru (.sl 6)) (tBin true (.ex (mFn T [(.sl 0), (.ex (j8 (.int 5)))])) (.ex (j8 (.int 0))) fEq)) (q6 (sExpr (mAppend 9 (j8 (.str (Str.ofString "drain"))))) sNext) sNext)
def stPick (T : FSem) : SS := (sIf (tAndM (tBin true (.ex (mBin true (.sl 10) (.ex (j8 (.int 0))) fIx)) (.ex (mTup (j6 (j8 (.str (Str.ofString "read"))) (j6 (j8 (.str (Str.ofString "reads"))) j7)))) fIn) (tBin true (.ex (mFn T [(.sl 0), (.ex (j8 (.int 4)))])) (.ex (j8 (.int 0))) fEq)) (q6 (sExpr (mAppend 9 (j8 (.str (Str.ofString "pick"))))) sNext) sNext)
def stSilent (T : FSem) : SS := (sIf (tAndM (tBin true (.sl 10) (.ex (mTup (j6 (mTup (j6 (j8 (.str (Str.ofString "nop"))) j7)) (j6 (mTup (j6 (j8 (.str (Str.ofString "work"))) (j6 (j8 (.bool true)) j7))) j7)))) fIn) (tBin true (.ex (mFn T [(.sl 0), (.ex (j8 (.int 4)))])) (.ex (j8 (.int 0))) fEq)) (q6 (sExpr (mAppend 9 (j8 (.str (Str.ofString "silent"))))) sNext) sNext)
def stWay (T : FSem) : SS := sSet 11 (mFn T [(.sl 0), (.ex (j8 (.int 6)))])
def stLink : SS := (sIf (tBin true (.sl 11) (.ex (j8 (.int 3))) fLt) (q6 (sExpr (mAppend 9 (mIf (tBin true (.sl 11) (.ex (j8 (.int 0))) fEq) (j8 (.str (Str.ofString "hard"))) (j8 (.str (Str.ofString "link")))))) sNext) sNext)
section
variable {T : FSem} {S m u tg : D} {N G B : List D} {f : Bool} {tm : Option D}
theorem drain_st (hT : TakeOk T) {t : Nat} {b : List D} {d v : Option D} {Q : Fl × DL.Env → Prop} (hb : Box t b) (ht : t ≤ 1000000000)
    (hq : ∀ b' ws, Box (t + 1) b' → (ws = [] ∨ (ws = [wS "drain"] ∧ f = true)) → Q (.nx, lotE b' S N G m B f u tg (ws.map PyData.str) d v tm)) : wo (stDrain T (lotE b S N G m B f u tg [] d v tm)) Q := by
  unfold stDrain lotE
  cases f with
  | false =>
    simp [woA, given, gv1, back, bk1, pad, envOf, ioOk, setsE, Tgs.len, Tg.ix, Tgs.ix, wipeE, restore]
    exact hq b [] (hb.mono (by omega)) (.inl rfl)
  | true =>
    simp [woA, given, gv1, back, bk1, pad, envOf, ioOk, setsE, Tgs.len, Tg.ix, Tgs.ix, wipeE, restore]
    refine hT t b 5 _ hb ht (by omega) (by omega) fun k b' hb' k0 k1 => ?_
    by_cases hk : k = 0
    · simp [woA, given, gv1, back, bk1, pad, envOf, ioOk, setsE, Tgs.len, Tg.ix, Tgs.ix, wipeE, restore, hk]
      exact hq b' [wS "drain"] hb' (.inr ⟨rfl, rfl⟩)
    · simp [woA, given, gv1, back, bk1, pad, envOf, ioOk, setsE, Tgs.len, Tg.ix, Tgs.ix, wipeE, restore, hk]
      exact hq b' [] hb' (.inl rfl)
theorem pick_st (hT : TakeOk T) {t : Nat} {b : List D} {w : Str} {rest : List D} {ws : List Str} {v : Option D} {Q : Fl × DL.Env → Prop} (hb : Box t b) (ht : t ≤ 1000000000)
    (hw : ws.length ≤ 10)
    (hq : ∀ b' ws', Box (t + 1) b' → (ws' = ws ∨ (ws' = ws ++ [wS "pick"] ∧ readB w = true)) → Q (.nx, lotE b' S N G m B f u tg (ws'.map PyData.str) (some (.tuple (.str w :: rest))) v tm)) : wo (stPick T (lotE b S N G m B f u tg (ws.map PyData.str) (some (.tuple (.str w :: rest))) v tm)) Q := by
  have r1 := flat_words [wS "read", wS "reads"]
  have r2 := in_words [wS "read", wS "reads"] w
  have r3 : readB w = decide (w ∈ [wS "read", wS "reads"]) := rfl
  rw [← r3] at r2
  have hq1 := fun b' h => hq b' ws h (.inl rfl)
  have hq2 := fun b' h k => hq b' (ws ++ [wS "pick"]) h (.inr ⟨rfl, k⟩)
  rw [List.map_append] at hq2
  simp only [List.map_cons, List.map_nil, List.any_cons, List.any_nil, Bool.or_false, eqv_str] at r1 r2 hq2
  unfold stPick
  unfold lotE at *
  have lw : (ws.map PyData.str).length < 16777216 := by rw [List.length_map]; omega
  generalize ws.map PyData.str = W at *
  cases hr : readB w with
  | false =>
    rw [hr] at r2
    simp [woA, given, gv1, back, bk1, pad, envOf, ioOk, setsE, Tgs.len, Tg.ix, Tgs.ix, wipeE, restore, r1, r2]
    exact hq1 b (hb.mono (by omega))
  | true =>
    rw [hr] at r2
    simp [woA, given, gv1, back, bk1, pad, envOf, ioOk, setsE, Tgs.len, Tg.ix, Tgs.ix, wipeE, restore, r1, r2]
    refine hT t b 4 _ hb ht (by omega) (by omega) fun k b' hb' k0 k1 => ?_
    by_cases hk : k = 0
    · simp [woA, given, gv1, back, bk1, pad, envOf, ioOk, setsE, Tgs.len, Tg.ix, Tgs.ix, wipeE, restore, hk, lw]
      exact hq2 b' hb' hr
    · simp [woA, given, gv1, back, bk1, pad, envOf, ioOk, setsE, Tgs.len, Tg.ix, Tgs.ix, wipeE, restore, hk]
      exact hq1 b' hb'
theorem silent_st (hT : TakeOk T) {t : Nat} {b : List D} {w : Str} {rest : List D} {ws : List Str} {v : Option D} {Q : Fl × DL.Env → Prop} (hb : Box t b) (ht : t ≤ 1000000000) (dd : Dd w rest)
    (hw : ws.length ≤ 10)
    (hq : ∀ b' ws', Box (t + 1) b' → (ws' = ws ∨ (ws' = ws ++ [wS "silent"] ∧ silB w rest = true)) → Q (.nx, lotE b' S N G m B f u tg (ws'.map PyData.str) (some (.tuple (.str w :: rest))) v tm)) : wo (stSilent T (lotE b S N G m B f u tg (ws.map PyData.str) (some (.tuple (.str w :: rest))) v tm)) Q := by
  have s1 : flatD (.tuple [.tuple [.str (wS "nop")], .tuple [.str (wS "work"), .bool true]]) = true := by decide +kernel
  have s2 := sil_in dd
  have hq1 := fun b' h => hq b' ws h (.inl rfl)
  have hq2 := fun b' h k => hq b' (ws ++ [wS "silent"]) h (.inr ⟨rfl, k⟩)
  rw [List.map_append] at hq2
  simp only [List.map_cons, List.map_nil, List.any_cons, List.any_nil, Bool.or_false] at s2 hq2
  unfold stSilent
  unfold lotE at *
  have lw : (ws.map PyData.str).length < 16777216 := by rw [List.length_map]; omega
  generalize ws.map PyData.str = W at *
  cases hr : silB w rest with
  | false =>
    rw [hr] at s2
    simp [woA, given, gv1, back, bk1, pad, envOf, ioOk, setsE, Tgs.len, Tg.ix, Tgs.ix, wipeE, restore, s1, s2]
    exact hq1 b (hb.mono (by omega))
  | true =>
    rw [hr] at s2
    simp [woA, given, gv1, back, bk1, pad, envOf, ioOk, setsE, Tgs.len, Tg.ix, Tgs.ix, wipeE, restore, s1, s2]
    refine hT t b 4 _ hb ht (by omega) (by omega) fun k b' hb' k0 k1 => ?_
    by_cases hk : k = 0
    · simp [woA, given, gv1, back, bk1, pad, envOf, ioOk, setsE, Tgs.len, Tg.ix, Tgs.ix, wipeE, restore, hk, lw]
      exact hq2 b' hb' hr
    · simp [woA, given, gv1, back, bk1, pad, envOf, ioOk, setsE, Tgs.len, Tg.ix, Tgs.ix, wipeE, restore, hk]
      exact hq1 b' hb'
theorem way_st (hT : TakeOk T) {t : Nat} {b : List D} {W : List D} {d v : Option D} {Q : Fl × DL.Env → Prop} (hb : Box t b) (ht : t ≤ 1000000000)
    (hq : ∀ b' k, Box (t + 1) b' → 0 ≤ k → k < 6 → Q (.nx, lotE b' S N G m B f u tg W d (some (.int k)) tm)) : wo (stWay T (lotE b S N G m B f u tg W d v tm)) Q := by
  unfold stWay
  unfold lotE at *
  cases v <;> simp [woA, given, gv1, back, bk1, pad, envOf, ioOk, setsE, Tgs.len, Tg.ix, Tgs.ix, wipeE, restore] <;> refine hT t b 6 _ hb ht (by omega) (by omega) fun k b' hb' k0 k1 => ?_ <;> simp [woA, given, gv1, back, bk1, pad, envOf, ioOk, setsE, Tgs.len, Tg.ix, Tgs.ix, wipeE, restore] <;> exact hq b' k hb' k0 k1
theorem link_st {b : List D} {ws : List Str} {d : Option D} {k : Int} {Q : Fl × DL.Env → Prop}
    (hw : ws.length ≤ 10)
    (hq : Q (.nx, lotE b S N G m B f u tg ((ws ++ (if k < 3 then [if k = 0 then wS "hard" else wS "link"] else [])).map PyData.str) d (some (.int k)) tm)) : wo (stLink (lotE b S N G m B f u tg (ws.map PyData.str) d (some (.int k)) tm)) Q := by
  unfold stLink
  rw [List.map_append] at hq
  unfold lotE at *
  have lw : (ws.map PyData.str).length < 16777216 := by rw [List.length_map]; omega
  generalize ws.map PyData.str = W at *
  by_cases h3 : k < 3
  · by_cases h0 : k = 0
    · subst h0
      simp at hq
      simp [woA, given, gv1, back, bk1, pad, envOf, ioOk, setsE, Tgs.len, Tg.ix, Tgs.ix, wipeE, restore, lw]
      exact hq
    · simp [h3, h0] at hq
      simp [woA, given, gv1, back, bk1, pad, envOf, ioOk, setsE, Tgs.len, Tg.ix, Tgs.ix, wipeE, restore, h3, h0, lw]
      exact hq
  · simp [h3] at hq
    simp [woA, given, gv1, back, bk1, pad, envOf, ioOk, setsE, Tgs.len, Tg.ix, Tgs.ix, wipeE, restore, h3]
    exact hq
end
structure WordsD (f : Bool) (w : Str) (rest : List D) (k : Int) (ws : List Str) : Prop where
  nd : ws.Nodup
  fl : ∀ s ∈ ws, s ∈ flagWords
  len : ws.length ≤ 4
  drain : wS "drain" ∈ ws → f = true
  pick : wS "pick" ∈ ws → readB w = true
  silent : wS "silent" ∈ ws → silB w rest = true
  one : ¬ (wS "hard" ∈ ws ∧ wS "link" ∈ ws)
  link : linkB ws = decide (k < 3)
def wsOf (a b c : Bool) (k : Nat) : List Str := (if a then [wS "drain"] else []) ++ (if b then [wS "pick"] else []) ++ (if c then [wS "silent"] else []) ++ (if k < 3 then [if k = 0 then wS "hard" else wS "link"] else [])
theorem wsOf_ok : ∀ a b c : Bool, ∀ k < 4, (wsOf a b c k).Nodup ∧ (∀ s ∈ wsOf a b c k, s ∈ flagWords) ∧ (wsOf a b c k).length ≤ 4 ∧ (wS "drain" ∈ wsOf a b c k → a = true) ∧ (wS "pick" ∈ wsOf a b c k → b = true) ∧ (wS "silent" ∈ wsOf a b c k → c = true) ∧ ¬ (wS "hard" ∈ wsOf a b c k ∧ wS "link" ∈ wsOf a b c k) ∧ linkB (wsOf a b c k) = decide (k < 3) := by decide +kernel
theorem words_d {f : Bool} {w : Str} {rest : List D} {k : Int} {a b c : Bool} (ha : a = true → f = true) (hb : b = true → readB w = true) (hc : c = true → silB w rest = true) (h0 : 0 ≤ k) : WordsD f w rest k (((((if a then [wS "drain"] else []) ++ (if b then [wS "pick"] else [])) ++ (if c then [wS "silent"] else []))) ++ (if k < 3 then [if k = 0 then wS "hard" else wS "link"] else [])) := by
  have h := wsOf_ok a b c (min k.toNat 3) (by omega)
  have e : wsOf a b c (min k.toNat 3) = (((((if a then [wS "drain"] else []) ++ (if b then [wS "pick"] else [])) ++ (if c then [wS "silent"] else []))) ++ (if k < 3 then [if k = 0 then wS "hard" else wS "link"] else [])) := by
    unfold wsOf
    congr 1
    by_cases h3 : k < 3
    · have : min k.toNat 3 < 3 := by omega
      by_cases hz : k = 0
      · subst hz; rfl
      · have : ¬ (min k.toNat 3 = 0) := by omega
        simp only [h3, hz, if_true, if_false, *]
    · have : ¬ min k.toNat 3 < 3 := by omega
      simp only [h3, if_false, *]
  rw [e] at h
  obtain ⟨h1, h2, h3, h4, h5, h6, h7, h8⟩ := h
  refine ⟨h1, h2, h3, fun z => ha (h4 z), fun z => hb (h5 z), fun z => hc (h6 z), h7, h8.trans ?_⟩
  congr 1
  exact propext (by omega)
theorem words_st {T : FSem} (hT : TakeOk T) {S m u tg : D} {N G B : List D} {f : Bool} {tm : Option D} {t : Nat} {b : List D} {w : Str} {rest : List D} {v : Option D} {K : SS} {Q : Fl × DL.Env → Prop} (hb : Box t b) (ht : t + 4 ≤ 1000000000) (dd : Dd w rest)
    (hq : ∀ b' k ws, Box (t + 4) b' → 0 ≤ k → WordsD f w rest k ws → wo (K (lotE b' S N G m B f u tg (ws.map PyData.str) (some (.tuple (.str w :: rest))) (some (.int k)) tm)) Q) :
    wo (q6 (stDrain T) (q6 (stPick T) (q6 (stSilent T) (q6 (stWay T) (q6 stLink K)))) (lotE b S N G m B f u tg [] (some (.tuple (.str w :: rest))) v tm)) Q := by
  rw [wo_sSeq]
  refine drain_st hT hb (by omega) fun b1 w1 hb1 h1 => ?_
  rw [kSeq_nx, wo_sSeq]
  have l1 : w1.length ≤ 1 := by rcases h1 with rfl | ⟨rfl, _⟩ <;> simp
  refine pick_st hT hb1 (by omega) (by omega) fun b2 w2 hb2 h2 => ?_
  rw [kSeq_nx, wo_sSeq]
  have l2 : w2.length ≤ 2 := by rcases h2 with rfl | ⟨rfl, _⟩ <;> (try rw [List.length_append]) <;> (try simp only [List.length_cons, List.length_nil]) <;> omega
  refine silent_st hT hb2 (by omega) dd (by omega) fun b3 w3 hb3 h3 => ?_
  rw [kSeq_nx, wo_sSeq]
  refine way_st hT hb3 (by omega) fun b4 k hb4 k0 k1 => ?_
  rw [kSeq_nx, wo_sSeq]
  have l3 : w3.length ≤ 3 := by rcases h3 with rfl | ⟨rfl, _⟩ <;> (try rw [List.length_append]) <;> (try simp only [List.length_cons, List.length_nil]) <;> omega
  refine link_st (by omega) ?_
  rw [kSeq_nx]
  refine hq b4 k _ hb4 k0 ?_
  obtain ⟨a, ea, ha⟩ : ∃ a : Bool, w1 = (if a then [wS "drain"] else []) ∧ (a = true → f = true) := by
    rcases h1 with rfl | ⟨rfl, h⟩
    · exact ⟨false, rfl, by simp⟩
    · exact ⟨true, rfl, fun _ => h⟩
  obtain ⟨a2, ea2, ha2⟩ : ∃ a : Bool, w2 = w1 ++ (if a then [wS "pick"] else []) ∧ (a = true → readB w = true) := by
    rcases h2 with rfl | ⟨rfl, h⟩
    · exact ⟨false, by simp, by simp⟩
    · exact ⟨true, rfl, fun _ => h⟩
  obtain ⟨a3, ea3, ha3⟩ : ∃ a : Bool, w3 = w2 ++ (if a then [wS "silent"] else []) ∧ (a = true → silB w rest = true) := by
    rcases h3 with rfl | ⟨rfl, h⟩
    · exact ⟨false, by simp, by simp⟩
    · exact ⟨true, rfl, fun _ => h⟩
  subst ea3 ea2 ea
  exact words_d ha ha2 ha3 k0
end HL
namespace HL
open PySem PySem.Spec L2 DL
def aheadOf (qs : List Q0) (i : Nat) : Bool := match (elders qs i).getLast? with | some a => linkB a.fs | none => false
def preB (qs : List Q0) (i : Nat) (q : Q0) : Bool :=
  if timerB q.w then (match i with
    | 0 => false
    | j + 1 => match qs[j]? with
      | some p => !timerB p.w && linkB p.fs
      | none => false)
  else !(decide (wS "drain" ∈ q.fs) && aheadOf qs i)
def Pre (qs : List Q0) : Prop := ∀ i q, qs[i]? = some q → preB qs i q = true
theorem elders_app {qs xs : List Q0} {i : Nat} (h : i ≤ qs.length) : elders (qs ++ xs) i = elders qs i := by
  unfold elders
  rw [List.take_append_of_le_length h]
theorem preB_app {qs xs : List Q0} {i : Nat} {q : Q0} (h : i ≤ qs.length) : preB (qs ++ xs) i q = preB qs i q := by
  unfold preB aheadOf
  rw [elders_app h]
  cases i with
  | zero => rfl
  | succ j =>
    have e : (qs ++ xs)[j]? = qs[j]? := List.getElem?_append_left (by omega)
    simp only [e]
theorem get_app {qs : List Q0} {x q : Q0} {i : Nat} (h : (qs ++ [x])[i]? = some q) : (i < qs.length ∧ qs[i]? = some q) ∨ (i = qs.length ∧ q = x) := by
  by_cases hi : i < qs.length
  · rw [List.getElem?_append_left hi] at h
    exact .inl ⟨hi, h⟩
  · rw [List.getElem?_append_right (by omega)] at h
    by_cases e : i - qs.length = 0
    · rw [e] at h
      exact .inr ⟨by omega, by simpa using h.symm⟩
    · rw [List.getElem?_eq_none (by simp; omega)] at h
      cases h
theorem Pre.app {qs : List Q0} {x : Q0} (h : Pre qs) (hx : preB qs qs.length x = true) : Pre (qs ++ [x]) := by
  intro i q hq
  rcases get_app hq with ⟨hi, hq⟩ | ⟨rfl, rfl⟩
  · rw [preB_app (by omega)]; exact h i q hq
  · rw [preB_app (Nat.le_refl _)]; exact hx
theorem Pre.init {qs : List Q0} {x : Q0} (h : Pre (qs ++ [x])) : Pre qs ∧ preB qs qs.length x = true := by
  refine ⟨fun i q hq => ?_, ?_⟩
  · have hi := (List.getElem?_eq_some_iff.mp hq).1
    have := h i q (by rw [List.getElem?_append_left hi]; exact hq)
    rwa [preB_app (by omega)] at this
  · have := h qs.length x (by simp)
    rwa [preB_app (Nat.le_refl _)] at this
theorem ahead_app {qs : List Q0} {x : Q0} : aheadOf (qs ++ [x]) (qs ++ [x]).length = if timerB x.w then aheadOf qs qs.length else linkB x.fs := by
  have e : ∀ zs : List Q0, elders zs zs.length = zs.filter fun q => !timerB q.w := fun zs => by unfold elders; rw [List.take_length]
  unfold aheadOf
  rw [e, e, List.filter_append]
  cases h : timerB x.w <;> simp [h, List.filter_cons]
theorem stands_of {qs : List Q0} {i : Nat} {q : Q0} (h : preB qs i q = true) (h' : timerB q.w = true ∨ linkB q.fs = false ∨ i + 1 < qs.length) : standsB qs i q = true := by
  unfold preB at h
  unfold standsB
  cases ht : timerB q.w with
  | true => rw [ht] at h; exact h
  | false =>
    rw [ht] at h
    rcases h' with z | z | z
    · rw [ht] at z; cases z
    · simp only [Bool.false_eq_true, if_false] at h ⊢
      rw [z]
      simp only [Bool.not_false, Bool.true_or, Bool.and_true]
      exact h
    · simp only [Bool.false_eq_true, if_false] at h ⊢
      simp only [z, decide_true, Bool.or_true, Bool.and_true]
      exact h
def notLink (s : Str) : Bool := decide (s ∉ [wS "link", wS "hard"])
def endQ (l : Q0) : Q0 := if timerB l.w then l else { l with fs := l.fs.filter notLink }
theorem link_filter (fs : List Str) : linkB (fs.filter notLink) = false := by
  unfold linkB
  rw [List.any_eq_false]
  intro s hs
  have := (List.mem_filter.mp hs).2
  unfold notLink at this
  simp at this ⊢
  exact ⟨this.2, this.1⟩
theorem end_stands {qs : List Q0} {l : Q0} (h : Pre (qs ++ [l])) : ∀ i q, (qs ++ [endQ l])[i]? = some q → standsB (qs ++ [endQ l]) i q = true := by
  obtain ⟨h1, h2⟩ := h.init
  intro i q hq
  rcases get_app hq with ⟨hi, hq⟩ | ⟨rfl, rfl⟩
  · exact stands_of (by rw [preB_app (by omega)]; exact h1 i q hq) (.inr (.inr (by simp; omega)))
  · refine stands_of ?_ ?_
    · rw [preB_app (Nat.le_refl _)]
      unfold endQ
      cases ht : timerB l.w with
      | true => exact h2
      | false =>
        unfold preB at h2 ⊢
        simp only [ht, Bool.false_eq_true, if_false] at h2 ⊢
        by_cases hd : wS "drain" ∈ l.fs.filter notLink
        · have := (List.mem_filter.mp hd).1
          simp only [this, decide_true] at h2
          simp only [hd, decide_true]
          exact h2
        · simp [hd]
    · unfold endQ
      cases ht : timerB l.w with
      | true => exact .inl ht
      | false => exact .inr (.inl (link_filter _))
def EndedOk (F : FSem) : Prop := ∀ (qs : List Q0) (l : Q0), qs.length ≤ 1000 → l.fs.length ≤ 1000 → F [.own ((qs ++ [l]).map Q0.r)] = some (lotD (qs ++ [endQ l]), [.own ((qs ++ [endQ l]).map Q0.r)])
def nlD : D → Bool
  | .str s => notLink s
  | _ => false
theorem nlD_str (s : Str) : nlD (.str s) = notLink s := rfl
theorem filter_strs (fs : List Str) : (fs.map PyData.str).filter nlD = (fs.filter notLink).map PyData.str := by
  induction fs with
  | nil => rfl
  | cons s fs ih => rw [List.map_cons, List.filter_cons, List.filter_cons, ih, nlD_str]; by_cases h : notLink s = true <;> simp [h]
theorem ended_ok : EndedOk r_law_ended := by
  intro qs l hl hf
  refine wo_eq ?_
  have ea : (qs ++ [l]).map Q0.r = qs.map Q0.r ++ [l.r] := by simp
  have eb : (qs ++ [endQ l]).map Q0.r = qs.map Q0.r ++ [(endQ l).r] := by simp
  unfold lotD
  rw [ea, eb]
  have la : atI (qs.map Q0.r ++ [l.r]) (-1) = some l.r := last_at (by simp)
  have lx : ixN (qs.map Q0.r ++ [l.r]).length (-1) = some (qs.map Q0.r).length := by
    rw [ixN_last (by simp)]
    simp
  have st : ∀ y, (qs.map Q0.r ++ [l.r]).set (qs.map Q0.r).length y = qs.map Q0.r ++ [y] := fun y => by
    rw [List.set_append_right _ _ (Nat.le_refl _)]
    simp
  have lc : ∀ r : DL.Env, r = [some (.own (qs.map Q0.r ++ [l.r])), some (.d (.str l.t)), some (.d (.tuple (.str l.w :: l.rest))), some (.d (.tuple (l.fs.map PyData.str))), none] → lcLoop (.nm 4) (tBin true (.sl 4) (.ex (mTup (j6 (j8 (.str (Str.ofString "link"))) (j6 (j8 (.str (Str.ofString "hard"))) j7)))) fNotIn) (mVar 4) [4] (l.fs.map PyData.str) r = some ((l.fs.filter notLink).map PyData.str, r) := by
    rintro r rfl
    rw [lc_filter nlD (fun d => d)]
    · rw [filter_strs, List.map_id'' fun _ => rfl]
    · intro d hd
      obtain ⟨s, hs, rfl⟩ := List.mem_map.mp hd
      refine ⟨[some (.own (qs.map Q0.r ++ [l.r])), some (.d (.str l.t)), some (.d (.tuple (.str l.w :: l.rest))), some (.d (.tuple (l.fs.map PyData.str))), some (.d (.str s))], wo_eq (by simp [woA, given, gv1, back, bk1, pad, envOf, ioOk, setsE, Tgs.len, Tg.ix, Tgs.ix, wipeE, restore]), wo_eq ?_, fun _ => wo_eq (by simp [woA, given, gv1, back, bk1, pad, envOf, ioOk, setsE, Tgs.len, Tg.ix, Tgs.ix, wipeE, restore]), by simp [wipeE]⟩
      have e1 := flat_words [wS "link", wS "hard"]
      have e2 := in_words [wS "link", wS "hard"] s
      simp only [List.map_cons, List.map_nil] at e1 e2
      have e3 : notLink s = !decide (s ∈ [wS "link", wS "hard"]) := by unfold notLink; simp
      rw [← e2] at e3
      rw [nlD_str]
      simp only [woA, given, gv1, back, bk1, pad, envOf, ioOk, setsE, Tgs.len, Tg.ix, Tgs.ix, wipeE, restore, List.getElem?_cons_zero, List.getElem?_cons_succ, List.set_cons_zero, List.set_cons_succ, List.map_cons, List.map_nil, List.cons_append, List.nil_append, List.length_cons, List.length_nil, e1, e3, Bool.or_true, true_and]
      exact ⟨by omega, trivial⟩
  have lf : (l.fs.map PyData.str).length ≤ 16777216 := by simp; omega
  have lq : (qs.map Q0.r).length + 1 ≤ 16777216 := by simp; omega
  have tw : (l.w == Str.ofString "linktimeout") = timerB l.w := rfl
  unfold r_law_ended b_law_ended
  unfold endQ
  cases ht : timerB l.w with
  | true =>
    rw [ht] at tw
    have tw' : l.w = Str.ofString "linktimeout" := eq_of_beq tw
    simp only [mkR, Q0.r, if_true] at *
    generalize (qs.map fun q => PyData.tuple [.str q.t, .tuple (.str q.w :: q.rest), .tuple (q.fs.map PyData.str)]) = M at *
    generalize l.fs.map PyData.str = L at *
    rw [tw'] at la ⊢
    simp [woA, given, gv1, back, bk1, pad, envOf, ioOk, setsE, Tgs.len, Tg.ix, Tgs.ix, wipeE, restore, la, lq]
  | false =>
    rw [ht] at tw
    have tw' : ¬ l.w = Str.ofString "linktimeout" := by simpa using tw
    have lx' : ixN ((qs.map Q0.r).length + 1) (-1) = some (qs.map Q0.r).length := by
      have := lx
      rwa [List.length_append, List.length_singleton] at this
    simp only [mkR, Q0.r, Bool.false_eq_true, if_false] at *
    generalize (qs.map fun q => PyData.tuple [.str q.t, .tuple (.str q.w :: q.rest), .tuple (q.fs.map PyData.str)]) = M at *
    generalize l.fs.map PyData.str = L at *
    simp [woA, given, gv1, back, bk1, pad, envOf, ioOk, setsE, Tgs.len, Tg.ix, Tgs.ix, wipeE, restore, la, tw, tw', lq, lf, lc, lx, lx', st]
end HL
namespace HL
open PySem PySem.Spec L2 DL
structure QG (ps : List Str) (n : Nat) (q : Q0) : Prop where
  ok : q.Ok
  fl : flagsB q.w q.rest q.fs = true
  pipe : ∀ p, pipeV q.rest = some p → p ∈ ps
  slot : ∀ s, slotV q.rest = some s → s < n
  nice : nice 1000 59 3 q.r = true
  wt : wt q.r ≤ 1000
theorem wtAll_le {c : Nat} : ∀ {xs : List D}, (∀ x ∈ xs, wt x ≤ c) → wtAll xs ≤ (c + 2) * xs.length
  | [], _ => by simp [wtAll]
  | x :: xs, h => by
    have h1 := h x List.mem_cons_self
    have h2 := wtAll_le (xs := xs) fun y hy => h y (List.mem_cons_of_mem _ hy)
    rw [wtAll, List.length_cons, Nat.mul_add]
    omega
theorem flag_nw : ∀ s ∈ flagWords, nice 1000 59 1 (.str s) = true ∧ wt (.str s) ≤ 62 := by decide +kernel
theorem flags_nw {fs : List Str} (h : ∀ s ∈ fs, s ∈ flagWords) (hl : fs.length ≤ 4) : nice 1000 59 2 (.tuple (fs.map PyData.str)) = true ∧ wt (.tuple (fs.map PyData.str)) ≤ 260 := by
  refine ⟨(nice_seq (.inr rfl)).mpr ⟨1, rfl, by simp; omega, fun x hx => ?_⟩, ?_⟩
  · obtain ⟨s, hs, rfl⟩ := List.mem_map.mp hx
    exact (flag_nw s (h s hs)).1
  · rw [wt_seq (.inr rfl)]
    have := wtAll_le (c := 62) (xs := fs.map PyData.str) fun x hx => by
      obtain ⟨s, hs, rfl⟩ := List.mem_map.mp hx
      exact (flag_nw s (h s hs)).2
    rw [List.length_map] at this
    have : (62 + 2) * fs.length ≤ (62 + 2) * 4 := Nat.mul_le_mul_left _ hl
    omega
theorem mk_nw {t w : Str} {rest : List D} {fs : List Str} (ht : wordB 8 t = true) (hd : nice 1000 59 2 (.tuple (.str w :: rest)) = true) (hd' : wt (.tuple (.str w :: rest)) ≤ 400) (h : ∀ s ∈ fs, s ∈ flagWords) (hl : fs.length ≤ 4) : nice 1000 59 3 (mkR t (.tuple (.str w :: rest)) fs) = true ∧ wt (mkR t (.tuple (.str w :: rest)) fs) ≤ 1000 := by
  have nf := flags_nw h hl
  have nt := nw_str (n := 2) ht (Nat.le_refl 8)
  refine ⟨(nice_seq (.inr rfl)).mpr ⟨2, rfl, by simp, fun x hx => ?_⟩, ?_⟩
  · simp only [List.mem_cons, List.not_mem_nil, or_false] at hx
    rcases hx with rfl | rfl | rfl
    · exact nt.1
    · exact hd
    · exact nf.1
  · rw [wt_seq (.inr rfl), wtAll, wtAll, wtAll, wtAll]
    have := nf.2
    have := nt.2
    omega
theorem adj_sort {ws : List Str} (h : ws.Nodup) : adjB (sortT ws) = true := by
  rw [adj_iff]
  refine decide_eq_true ?_
  rw [uniq_self ((sortT_perm ws).symm.nodup h)]
  exact sort_unique (List.Perm.refl _) (sortT_pw ws)
theorem adj_filter {fs : List Str} {p : Str → Bool} (h : adjB fs = true) : adjB (fs.filter p) = true := pw_adj ((adj_pw h).filter p)
theorem any_perm {xs ys : List Str} (h : xs.Perm ys) : linkB xs = linkB ys := by
  rw [linkB_eq, linkB_eq]
  simp only [h.mem_iff]
theorem new_good {ps : List Str} {n : Nat} {t w : Str} {rest : List D} {ws : List Str} {f : Bool} {k : Int} (ht : wordB 8 t = true) (hd : DeedD ps n w rest) (hw : WordsD f w rest k ws) : QG ps n ⟨t, w, rest, sortT ws⟩ := by
  have pm := sortT_perm ws
  have mem : ∀ s, s ∈ sortT ws ↔ s ∈ ws := fun s => pm.mem_iff
  have len : (sortT ws).length ≤ 4 := by rw [pm.length_eq]; exact hw.len
  have fl : ∀ s ∈ sortT ws, s ∈ flagWords := fun s hs => hw.fl s ((mem s).mp hs)
  have nw := mk_nw ht hd.nice hd.wt fl len
  refine ⟨⟨⟨ht, hd.deed, fl⟩, by show (sortT ws).length ≤ 60; omega⟩, ?_, hd.pipe, hd.slot, nw.1, nw.2⟩
  show flagsB w rest (sortT ws) = true
  unfold flagsB
  rw [adj_sort hw.nd, hd.nt]
  simp only [mem]
  have h1 := hw.one
  have h2 := hw.silent
  have h3 := hw.pick
  by_cases a : wS "hard" ∈ ws <;> by_cases b : wS "link" ∈ ws <;> by_cases c : wS "silent" ∈ ws <;> by_cases e : wS "pick" ∈ ws <;> simp [a, b, c, e] at * <;> simp [*]
theorem timer_good {ps : List Str} {n : Nat} {t : Str} {m : Int} (ht : wordB 8 t = true) (h0 : 0 ≤ m) (h1 : m ≤ 1000) : QG ps n ⟨t, wS "linktimeout", [.int m], []⟩ := by
  have nm := nw_int (n := 1) h0 h1
  have kw : nice 1000 59 1 (.str (wS "linktimeout")) = true ∧ wt (.str (wS "linktimeout")) ≤ 112 := by decide +kernel
  have nd : nice 1000 59 2 (.tuple [.str (wS "linktimeout"), .int m]) = true := (nice_seq (.inr rfl)).mpr ⟨1, rfl, by simp, by simp [kw.1, nm.1]⟩
  have wd : wt (.tuple [.str (wS "linktimeout"), .int m]) ≤ 400 := by rw [wt_seq (.inr rfl), wtAll, wtAll, wtAll]; omega
  have nw := mk_nw (fs := []) ht nd wd (by simp) (by simp)
  refine ⟨⟨⟨ht, by rw [sh_linktimeout]; simp [fromB, h0], by simp⟩, by simp⟩, ?_, by simp [pipeV, whP], by simp [slotV, whS], nw.1, nw.2⟩
  show flagsB _ _ [] = true
  unfold flagsB
  simp [adjB]
theorem end_good {ps : List Str} {n : Nat} {q : Q0} (h : QG ps n q) (hl : q.fs.length ≤ 4) : QG ps n (endQ q) := by
  unfold endQ
  cases ht : timerB q.w with
  | true => exact h
  | false =>
    have sub : ∀ s, s ∈ q.fs.filter notLink → s ∈ q.fs := fun s hs => (List.mem_filter.mp hs).1
    have len : (q.fs.filter notLink).length ≤ q.fs.length := List.length_filter_le _ _
    obtain ⟨k, ek, kl, kx⟩ := (nice_seq (d := q.r) (.inr rfl)).mp h.nice
    cases ek
    have n2 := kx (.tuple (.str q.w :: q.rest)) (by simp)
    have nf := flags_nw (fs := q.fs.filter notLink) (fun s hs => h.ok.rq.fl s (sub s hs)) (by omega)
    refine ⟨⟨⟨h.ok.rq.tag, h.ok.rq.deed, fun s hs => h.ok.rq.fl s (sub s hs)⟩, by have := h.ok.fl; show (q.fs.filter notLink).length ≤ 60; omega⟩, ?_, h.pipe, h.slot, ?_, ?_⟩
    · have hf := h.fl
      show flagsB q.w q.rest (q.fs.filter notLink) = true
      unfold flagsB at hf ⊢
      simp only [Bool.and_eq_true] at hf
      rw [adj_filter hf.1.1.1.1, ht]
      have a : wS "hard" ∉ q.fs.filter notLink := fun z => by
        have := (List.mem_filter.mp z).2
        revert this; decide +kernel
      have h4 := hf.1.2
      have h5 := hf.2
      simp only [a, decide_false, Bool.false_and, Bool.not_false, Bool.and_true, Bool.true_and]
      by_cases c : wS "silent" ∈ q.fs.filter notLink <;> by_cases e : wS "pick" ∈ q.fs.filter notLink
      · simp only [sub _ c, sub _ e, decide_true, Bool.true_and] at h4 h5
        simp only [c, e, decide_true, Bool.true_and]
        rw [h4]
        exact h5
      · simp only [sub _ c, decide_true, Bool.true_and] at h4
        simp only [c, e, decide_true, decide_false, Bool.true_and]
        rw [h4]
        all_goals rfl
      · simp only [sub _ e, decide_true] at h5
        simp only [c, e, decide_true, decide_false, Bool.false_and, Bool.not_false, Bool.true_and]
        exact h5
      · simp [c, e]
    · refine (nice_seq (.inr rfl)).mpr ⟨2, rfl, by simp, fun x hx => ?_⟩
      simp only [List.mem_cons, List.not_mem_nil, or_false] at hx
      rcases hx with rfl | rfl | rfl
      · exact kx _ (by simp)
      · exact n2
      · exact nf.1
    · have w0 := h.wt
      have wa : ∀ fs : List Str, wt (.tuple ((fs.filter notLink).map PyData.str)) ≤ wt (.tuple (fs.map PyData.str)) := fun fs => by
        rw [wt_seq (.inr rfl), wt_seq (.inr rfl)]
        induction fs with
        | nil => exact Nat.le_refl _
        | cons s fs ih =>
          rw [List.filter_cons, List.map_cons, wtAll]
          cases notLink s
          · simp only [Bool.false_eq_true, if_false]; omega
          · simp only [if_true, List.map_cons, wtAll]; omega
      have := wa q.fs
      show wt (.tuple [.str q.t, .tuple (.str q.w :: q.rest), .tuple ((q.fs.filter notLink).map PyData.str)]) ≤ 1000
      have w0 : wt (.tuple [.str q.t, .tuple (.str q.w :: q.rest), .tuple (q.fs.map PyData.str)]) ≤ 1000 := w0
      rw [wt_seq (.inr rfl), wtAll, wtAll, wtAll, wtAll] at w0 ⊢
      omega
end HL
namespace HL
open PySem PySem.Spec L2 DL
structure LS (ps : List Str) (n mm gg : Nat) (qs : List Q0) (ns gs : List Str) (f : Bool) (k e : Nat) : Prop where
  good : ∀ q ∈ qs, QG ps n q ∧ q.fs.length ≤ 4
  pre : Pre qs
  nd : (qs.map Q0.t ++ ns).Nodup
  nw : ∀ s ∈ ns, wordB 8 s = true
  gw : ∀ s ∈ gs, wordB 8 s = true
  ql : qs.length + e ≤ 2 * k
  q1 : k ≤ qs.length
  nl : 2 * mm + e ≤ ns.length + 2 * k
  gl : gs.length + e ≤ gg + 2 * k
  ah : f = !aheadOf qs qs.length
  nu : ns.length ≤ 30
theorem LS.weak {ps n mm gg qs ns gs f k} (h : LS ps n mm gg qs ns gs f k 1) : LS ps n mm gg qs ns gs f k 0 :=
  ⟨h.good, h.pre, h.nd, h.nw, h.gw, by have := h.ql; omega, h.q1, by have := h.nl; omega, by have := h.gl; omega, h.ah, h.nu⟩
theorem nd_step {ts ns : List Str} {t : Str} (h : (ts ++ t :: ns).Nodup) : ((ts ++ [t]) ++ ns).Nodup := by simpa using h
theorem LS.add {ps n mm gg qs ns gs f k} {x : Q0} (h : LS ps n mm gg qs (x.t :: ns) gs f k 0) (hg : QG ps n x) (hl : x.fs.length ≤ 4) (ht : timerB x.w = false) (hd : wS "drain" ∈ x.fs → f = true) : LS ps n mm gg (qs ++ [x]) ns (gs ++ [x.t]) (!linkB x.fs) (k + 1) 1 := by
  refine ⟨?_, h.pre.app ?_, ?_, fun s hs => h.nw s (List.mem_cons_of_mem _ hs), ?_, ?_, ?_, ?_, ?_, ?_, by have := h.nu; simp only [List.length_cons] at this; omega⟩
  · intro q hq
    rcases List.mem_append.mp hq with z | z
    · exact h.good q z
    · cases List.mem_singleton.mp z; exact ⟨hg, hl⟩
  · unfold preB
    rw [ht]
    simp only [Bool.false_eq_true, if_false]
    by_cases z : wS "drain" ∈ x.fs
    · have := hd z
      rw [h.ah] at this
      simp only [z, decide_true, Bool.true_and]
      exact this
    · simp [z]
  · rw [List.map_append]
    exact nd_step h.nd
  · intro s hs
    rcases List.mem_append.mp hs with z | z
    · exact h.gw s z
    · cases List.mem_singleton.mp z; exact h.nw _ List.mem_cons_self
  · have := h.ql; simp; omega
  · have := h.q1; simp; omega
  · have := h.nl; simp only [List.length_cons] at this; omega
  · have := h.gl; simp; omega
  · rw [ahead_app, ht]; rfl
theorem LS.timer {ps n mm gg qs ns gs f k} {x y : Q0} (h : LS ps n mm gg (qs ++ [y]) (x.t :: ns) gs f k 1) (hg : QG ps n x) (hl : x.fs.length ≤ 4) (ht : timerB x.w = true) (hy : timerB y.w = false) (hy' : linkB y.fs = true) : LS ps n mm gg (qs ++ [y] ++ [x]) ns (gs ++ [x.t]) f k 0 := by
  refine ⟨?_, h.pre.app ?_, ?_, fun s hs => h.nw s (List.mem_cons_of_mem _ hs), ?_, ?_, ?_, ?_, ?_, ?_, by have := h.nu; simp only [List.length_cons] at this; omega⟩
  · intro q hq
    rcases List.mem_append.mp hq with z | z
    · exact h.good q z
    · cases List.mem_singleton.mp z; exact ⟨hg, hl⟩
  · unfold preB
    rw [ht]
    simp only [if_true, List.length_append, List.length_singleton]
    rw [List.getElem?_append_right (Nat.le_refl _), Nat.sub_self]
    simp [hy, hy']
  · rw [List.map_append]
    exact nd_step h.nd
  · intro s hs
    rcases List.mem_append.mp hs with z | z
    · exact h.gw s z
    · cases List.mem_singleton.mp z; exact h.nw _ List.mem_cons_self
  · have := h.ql; simp only [List.length_append, List.length_singleton] at this ⊢; omega
  · have := h.q1; simp only [List.length_append, List.length_singleton] at this ⊢; omega
  · have := h.nl; simp only [List.length_cons] at this; omega
  · have := h.gl; simp; omega
  · rw [ahead_app, ht]; exact h.ah
structure GoodLot (ps : List Str) (n : Nat) (qs : List Q0) : Prop where
  good : ∀ q ∈ qs, QG ps n q
  st : ∀ i q, qs[i]? = some q → standsB qs i q = true
  nd : (qs.map Q0.t).Nodup
  l0 : 0 < qs.length
  l8 : qs.length ≤ 12
theorem LS.fin {ps n mm gg qs ns gs f k} (h : LS ps n mm gg qs ns gs f k 0) (h0 : 0 < k) (h4 : k ≤ 6) : ∃ qi l, qs = qi ++ [l] ∧ l.fs.length ≤ 4 ∧ qi.length ≤ 12 ∧ GoodLot ps n (qi ++ [endQ l]) := by
  have hq : qs ≠ [] := fun e => by have := h.q1; rw [e] at this; simp at this; omega
  obtain ⟨qi, l, rfl⟩ : ∃ qi l, qs = qi ++ [l] := ⟨qs.dropLast, qs.getLast hq, (List.dropLast_concat_getLast hq).symm⟩
  have ql := h.ql
  simp only [List.length_append, List.length_singleton] at ql
  have gl := h.good l (by simp)
  have tg : (endQ l).t = l.t := by unfold endQ; split <;> rfl
  refine ⟨qi, l, rfl, gl.2, by omega, ?_, end_stands h.pre, ?_, by simp, by simp; omega⟩
  · intro q hq'
    rcases List.mem_append.mp hq' with z | z
    · exact (h.good q (by simp [z])).1
    · cases List.mem_singleton.mp z; exact end_good gl.1 gl.2
  · have := (List.nodup_append.mp h.nd).1
    rw [List.map_append] at this ⊢
    simp only [List.map_cons, List.map_nil, tg] at this ⊢
    exact this
def stEnd (T : FSem) : SS := (q6 (sExpr (mAppend 5 (mTup (j6 (mVar 8) (j6 (mVar 10) (j6 (mCall true [(.ex (listOf (nSort (.sl 9))))] fTuple) j7)))))) (q6 (sSet 6 (mBin true (.sl 11) (.ex (j8 (.int 2))) fGt)) (q6 (sIf (tAndM (tBin true (.sl 11) (.ex (j8 (.int 3))) fLt) (tBin true (.ex (mFn T [(.sl 0), (.ex (j8 (.int 3)))])) (.ex (j8 (.int 0))) fEq)) (q6 (sSet 12 (mPop 2 (j8 (.int 0)))) (q6 (sExpr (mAppend 3 (mVar 12))) (q6 (sExpr (mAppend 5 (mTup (j6 (mVar 12) (j6 (mTup (j6 (j8 (.str (Str.ofString "linktimeout"))) (j6 (mFn T [(.sl 0), (.ex (j8 (.int 9)))]) j7))) (j6 (mTup j7) j7)))))) sNext))) sNext) sNext)))
def lotTail (T : FSem) : SS := q6 (stDrain T) (q6 (stPick T) (q6 (stSilent T) (q6 (stWay T) (q6 stLink (stEnd T)))))
def lotBodyD (T E : FSem) : SS := (q6 (sPar [8, 9] [.d (mPop 2 (j8 (.int 0))), .n (nLst j7)]) (q6 (sSet 10 (mFn E [(.sl 0), (.sl 1), (.sl 3)])) (q6 (sExpr (mAppend 3 (mVar 8))) (lotTail T))))
theorem b_lot_eq (T E N : FSem) : b_law_lot T E N = (q6 (sPar [5, 6] [.n (nLst j7), .d (j8 (.bool true))]) (q6 (sFor (iRange1 (mBin false (.ex (j8 (.int 1))) (.ex (mFn T [(.sl 0), (.sl 4)])) fAdd)) (.nm 7) (lotBodyD T E)) (q6 (sRet (mFn N [(.sl 5)])) sNext))) := rfl
theorem end_st {T : FSem} (hT : TakeOk T) {S m u : D} {f : Bool} {tm : Option D} {t : Nat} {b : List D} {ps : List Str} {n k mm gg : Nat} {qs : List Q0} {ns gs : List Str} {tg w : Str} {rest : List D} {ws : List Str} {v : Int} {Q : Fl × DL.Env → Prop} (hb : Box t b) (ht : t + 4 ≤ 1000000000) (k3 : k < mm) (m6 : mm ≤ 6) (g6 : gg ≤ 100)
    (h : LS ps n mm gg qs (tg :: ns) gs f k 0) (hd : DeedD ps n w rest) (hw : WordsD f w rest v ws)
    (hq : ∀ b' qs' ns' gs' f' tm' W, Box (t + 4) b' → LS ps n mm gg qs' ns' gs' f' (k + 1) 0 → Q (.nx, lotE b' S (ns'.map PyData.str) (gs'.map PyData.str) m (qs'.map Q0.r) f' u (.str tg) W (some (.tuple (.str w :: rest))) (some (.int v)) tm')) :
    wo (stEnd T (lotE b S (ns.map PyData.str) ((gs ++ [tg]).map PyData.str) m (qs.map Q0.r) f u (.str tg) (ws.map PyData.str) (some (.tuple (.str w :: rest))) (some (.int v)) tm)) Q := by
  have g := new_good (h.nw tg List.mem_cons_self) hd hw
  have pm := sortT_perm ws
  have st := LS.add (x := ⟨tg, w, rest, sortT ws⟩) h g (by show (sortT ws).length ≤ 4; rw [pm.length_eq]; exact hw.len) hd.nt (fun z => hw.drain (pm.mem_iff.mp z))
  have lk : linkB (sortT ws) = decide (v < 3) := (any_perm pm).trans hw.link
  have st : LS ps n mm gg (qs ++ [⟨tg, w, rest, sortT ws⟩]) ns (gs ++ [tg]) (!linkB (sortT ws)) (k + 1) 1 := st
  rw [lk] at st
  have tx := textsOf_map ws
  have wl : ws.length < 64 := by have := hw.len; omega
  have ql : (qs.map Q0.r).length < 16777216 := by have := h.ql; simp; omega
  have er : (qs ++ [Q0.mk tg w rest (sortT ws)]).map Q0.r = qs.map Q0.r ++ [.tuple [.str tg, .tuple (.str w :: rest), .tuple ((sortT ws).map PyData.str)]] := by simp
  have sl : ((sortT ws).map PyData.str).length ≤ 16777216 := by rw [List.length_map, pm.length_eq]; omega
  have sl' : (sortT ws).length ≤ 16777216 := by rw [pm.length_eq]; omega
  unfold stEnd
  by_cases h3 : v < 3
  · have h2 : ¬ (2 < v) := by omega
    simp only [h3, decide_true, Bool.not_true] at st
    have nl := st.nl
    cases ns with
    | nil => simp at nl; omega
    | cons t2 ns =>
      have gl := st.gl
      have nu := st.nu
      have nlen : (ns.map PyData.str).length + 1 < 1000000 := by simp only [List.length_cons] at nu; rw [List.length_map]; omega
      have glen : ((gs ++ [tg]).map PyData.str).length < 16777216 := by simp at gl ⊢; omega
      have qlen : (qs.map Q0.r).length + 1 < 16777216 := by have := h.ql; simp; omega
      have hq1 := fun b' W hb' => hq b' _ _ _ _ tm W hb' st.weak
      have hq2 := fun b' z W mm hb' m0 m1 => hq b' _ _ _ _ z W hb' (LS.timer (x := ⟨t2, wS "linktimeout", [.int mm], []⟩) st (timer_good (st.nw t2 List.mem_cons_self) m0 m1) (by simp) rfl hd.nt (by show linkB (sortT ws) = true; rw [lk]; simp [h3]))
      simp only [List.map_append, List.map_cons, List.map_nil, Q0.r, mkR] at hq1 hq2
      simp only [List.map_append, List.map_cons, List.map_nil] at glen ⊢
      have e0 : ∀ N : Nat, ixN (N + 1) 0 = some 0 := fun N => ixN_in (by omega) (by omega)
      unfold lotE at *
      generalize (qs.map fun q => PyData.tuple [.str q.t, .tuple (.str q.w :: q.rest), .tuple (q.fs.map PyData.str)]) = M at *
      generalize ws.map PyData.str = W at *
      generalize ns.map PyData.str = N' at *
      generalize gs.map PyData.str = G' at *
      have glen' : G'.length + 1 < 16777216 := by simpa using glen
      simp [woA, given, gv1, back, bk1, pad, envOf, ioOk, setsE, Tgs.len, Tg.ix, Tgs.ix, wipeE, restore, ql, tx, wl, sl, sl', h3, h2]
      refine hT t b 3 _ hb (by omega) (by omega) (by omega) fun c b1 hb1 c0 c1 => ?_
      by_cases hc : c = 0
      · simp [woA, given, gv1, back, bk1, pad, envOf, ioOk, setsE, Tgs.len, Tg.ix, Tgs.ix, wipeE, restore, hc, e0, nlen, glen']
        refine hT _ b1 9 _ hb1 (by omega) (by omega) (by omega) fun mm b2 hb2 m0 m1 => ?_
        simp [woA, given, gv1, back, bk1, pad, envOf, ioOk, setsE, Tgs.len, Tg.ix, Tgs.ix, wipeE, restore, qlen]
        have := hq2 b2 (some (.str t2)) W mm (hb2.mono (by omega)) m0 (by omega)
        simp at this
        exact this
      · simp [woA, given, gv1, back, bk1, pad, envOf, ioOk, setsE, Tgs.len, Tg.ix, Tgs.ix, wipeE, restore, hc]
        exact hq1 b1 W (hb1.mono (by omega))
  · have h2 : 2 < v := by omega
    simp only [h3, decide_false, Bool.not_false] at st
    have hq1 := fun b' W hb' => hq b' _ _ _ _ tm W hb' st.weak
    simp only [List.map_append, List.map_cons, List.map_nil, Q0.r, mkR] at hq1
    simp only [List.map_append, List.map_cons, List.map_nil]
    unfold lotE at *
    generalize (qs.map fun q => PyData.tuple [.str q.t, .tuple (.str q.w :: q.rest), .tuple (q.fs.map PyData.str)]) = M at *
    generalize ws.map PyData.str = W at *
    generalize ns.map PyData.str = N' at *
    generalize gs.map PyData.str = G' at *
    simp [woA, given, gv1, back, bk1, pad, envOf, ioOk, setsE, Tgs.len, Tg.ix, Tgs.ix, wipeE, restore, ql, tx, wl, sl, sl', h3, h2]
    exact hq1 b W (hb.mono (by omega))
end HL
namespace HL
open PySem PySem.Spec L2 DL
theorem body_st {T E : FSem} (hT : TakeOk T) (hE : LawDeedOk E) {sp ro : Int} {ps : List Str} {sl : List (Option Str)} (hs : SetupOk 1 sp ro ps sl) {m u : D} {f : Bool} {v tm : Option D} {a8 a9 a10 : Option Sl} {t : Nat} {b : List D} {k mm gg : Nat} {qs : List Q0} {ns gs : List Str} {Q : Fl × DL.Env → Prop} (hb : Box t b) (ht : t + 30 ≤ 1000000000) (k3 : k < mm) (m6 : mm ≤ 6) (g6 : gg ≤ 100)
    (h : LS ps sl.length mm gg qs ns gs f k 0)
    (hq : ∀ b' qs' ns' gs' f' tg W d v' tm', Box (t + 30) b' → LS ps sl.length mm gg qs' ns' gs' f' (k + 1) 0 → Q (.nx, lotE b' (mkSetup sp ro ps sl) (ns'.map PyData.str) (gs'.map PyData.str) m (qs'.map Q0.r) f' u tg W (some d) (some v') tm')) :
    wo (lotBodyD T E [some (.own b), some (.d (mkSetup sp ro ps sl)), some (.own (ns.map PyData.str)), some (.own (gs.map PyData.str)), some (.d m), some (.own (qs.map Q0.r)), some (.d (.bool f)), some (.d u), a8, a9, a10, v.map .d, tm.map .d]) Q := by
  have nl := h.nl
  have nu := h.nu
  have gl := h.gl
  cases ns with
  | nil => simp at nl; omega
  | cons tg ns =>
    have nlen : (ns.map PyData.str).length + 1 < 1000000 := by simp only [List.length_cons] at nu; rw [List.length_map]; omega
    have glen : (gs.map PyData.str).length < 16777216 := by rw [List.length_map]; omega
    have e0 : ∀ N : Nat, ixN (N + 1) 0 = some 0 := fun N => ixN_in (by omega) (by omega)
    unfold lotBodyD
    have dd := hE t b sp ro ps sl gs
    have ws := fun (w : Str) (rest : List D) (b1 : List D) (hb1 : Box (t + 20) b1) (hd : DeedD ps sl.length w rest) => words_st (T := T) hT (S := mkSetup sp ro ps sl) (m := m) (u := u) (tg := .str tg) (N := ns.map PyData.str) (G := (gs ++ [tg]).map PyData.str) (B := qs.map Q0.r) (f := f) (tm := tm) (w := w) (rest := rest) (v := v) (K := stEnd T) (Q := Q) hb1 (by omega) (dd_of hd.deed)
      fun b' k' ws hb' k0 hw => end_st hT hb' (by omega) k3 m6 g6 h hd hw fun b'' qs' ns' gs' f' tm' W hb'' ls => hq b'' qs' ns' gs' f' _ W _ _ tm' (hb''.mono (by omega)) ls
    have lt : lotTail T = q6 (stDrain T) (q6 (stPick T) (q6 (stSilent T) (q6 (stWay T) (q6 stLink (stEnd T))))) := rfl
    rw [← lt] at ws
    rw [List.map_append] at ws
    simp only [List.map_cons, List.map_nil] at ws ⊢
    unfold lotE at ws
    generalize hN : ns.map PyData.str = N' at *
    generalize hG : gs.map PyData.str = G' at *
    generalize qs.map Q0.r = M at *
    simp [woA, given, gv1, back, bk1, pad, envOf, ioOk, setsE, Tgs.len, Tg.ix, Tgs.ix, wipeE, restore, e0, nlen]
    refine dd _ hb hs (by omega) h.gw (by omega) fun w rest b1 hb1 hd => ?_
    simp [woA, given, gv1, back, bk1, pad, envOf, ioOk, setsE, Tgs.len, Tg.ix, Tgs.ix, wipeE, restore, glen]
    exact ws w rest b1 hb1 hd
def LawLotMk (F : FSem) : Prop := ∀ (t : Nat) (b : List D) (sp ro : Int) (ps : List Str) (sl : List (Option Str)) (mm gg : Nat) (ns gs : List Str) (Q : D × List Sl → Prop), Box t b → SetupOk 1 sp ro ps sl → t + 200 ≤ 1000000000 → 0 < mm → mm ≤ 6 → gg ≤ 100 → 2 * mm ≤ ns.length → ns.length ≤ 30 → (∀ s ∈ ns, wordB 8 s = true) → ns.Nodup → (∀ g ∈ gs, wordB 8 g = true) → gs.length ≤ gg →
  (∀ qs b' (ns' gs' : List Str), Box (t + 200) b' → GoodLot ps sl.length qs → (∀ s ∈ ns', wordB 8 s = true) → ns'.Nodup → ns'.length ≤ 30 → (∀ g ∈ gs', wordB 8 g = true) → gs'.length ≤ gg + 2 * mm → Q (lotD qs, [.own b', .d (mkSetup sp ro ps sl), .own (ns'.map PyData.str), .own (gs'.map PyData.str), .d (.int mm)])) → wo (F [.own b, .d (mkSetup sp ro ps sl), .own (ns.map PyData.str), .own (gs.map PyData.str), .d (.int mm)]) Q
theorem lot_mk_ok {T E N : FSem} (hT : TakeOk T) (hE : LawDeedOk E) (hN : EndedOk N) : LawLotMk (r_law_lot T E N) := by
  intro t b sp ro ps sl mm gg ns gs Q hb hs ht m0 m6 g6 nl nu nw nn gw gl hq
  unfold r_law_lot
  rw [b_lot_eq]
  simp [woA, given, gv1, back, bk1, pad, envOf, ioOk, setsE, Tgs.len, Tg.ix, Tgs.ix, wipeE, restore]
  refine hT t b mm _ hb (by omega) (by omega) (by omega) fun c b1 hb1 c0 c1 => ?_
  simp [woA, given, gv1, back, bk1, pad, envOf, ioOk, setsE, Tgs.len, Tg.ix, Tgs.ix, wipeE, restore, rangeD_len]
  refine ⟨by omega, ?_⟩
  obtain ⟨I, hI⟩ : ∃ I : List D → DL.Env → Prop, ∀ ds r, I ds r ↔ ∃ (b' : List D) (qs : List Q0) (ns gs : List Str) (f : Bool) (k : Nat) (a7 a8 a9 a10 : Option Sl) (v tm : Option D), canB (some a7) = true ∧ r = [some (.own b'), some (.d (mkSetup sp ro ps sl)), some (.own (ns.map PyData.str)), some (.own (gs.map PyData.str)), some (.d (.int mm)), some (.own (qs.map Q0.r)), some (.d (.bool f)), a7, a8, a9, a10, v.map .d, tm.map .d] ∧ Box (t + 1 + 30 * k) b' ∧ k + ds.length = (1 + c).toNat ∧ LS ps sl.length mm gg qs ns gs f k 0 := ⟨_, fun _ _ => Iff.rfl⟩
  refine for_inv I ?_ ?_ _ _ ((hI _ _).mpr ⟨b1, [], ns, gs, true, 0, none, none, none, none, none, none, rfl, rfl, hb1, by simp [rangeD_len], ?_⟩)
  · intro d ds r h
    obtain ⟨b', qs, ns, gs, f, k, a7, a8, a9, a10, v, tm, h7, rfl, hb', hk, ls⟩ := (hI _ _).mp h
    simp only [List.length_cons] at hk
    simp [woA, given, gv1, back, bk1, pad, envOf, ioOk, setsE, Tgs.len, Tg.ix, Tgs.ix, wipeE, restore, h7]
    refine body_st hT hE hs hb' (by omega) (by omega) m6 g6 ls fun b2 qs' ns' gs' f' tg W d' v' tm' hb2 ls' => ?_
    exact (hI _ _).mpr ⟨b2, qs', ns', gs', f', k + 1, some (.d d), some (.d tg), some (.own W), some (.d d'), some v', tm', rfl, rfl, hb2.mono (by omega), by omega, ls'⟩
  · intro r h
    obtain ⟨b', qs, ns, gs, f, k, a7, a8, a9, a10, v, tm, h7, rfl, hb', hk, ls⟩ := (hI _ _).mp h
    simp only [List.length_nil, Nat.add_zero] at hk
    obtain ⟨qi, l, eq0, l4, q8, gd⟩ := ls.fin (by omega) (by omega)
    have lsn := ls
    subst eq0
    have he := hN qi l (by omega) (by omega)
    generalize (qi ++ [l]).map Q0.r = M at *
    generalize hM : (qi ++ [endQ l]).map Q0.r = M' at *
    have nd' := (List.nodup_append.mp ls.nd).2.1
    have hq' := hq (qi ++ [endQ l]) b' ns gs (hb'.mono (by omega)) gd ls.nw nd' ls.nu ls.gw (by have := ls.gl; omega)
    unfold lotD at he hq'
    rw [hM] at he hq'
    simp [woA, given, gv1, back, bk1, pad, envOf, ioOk, setsE, Tgs.len, Tg.ix, Tgs.ix, wipeE, restore, he]
    exact hq'
  · refine ⟨by simp, by intro i q hq; simp at hq, by simpa using nn, nw, gw, by simp, by simp, by omega, by omega, rfl, by omega⟩
end HL
namespace HL
open PySem PySem.Spec L2 DL
def MixOk (n : Nat) (F : FSem) : Prop := ∀ (t : Nat) (b : List D) (d : D) (Q : D × List Sl → Prop), Box t b → fit 1000 n d = true → t + wt d ≤ 1000000000 →
  (∀ y b', tupD y = tupD d → fit 1000 n y = true → Box (t + wt d) b' → Q (y, [.own b', .d d])) → wo (F [.own b, .d d]) Q
theorem wtAll_app : ∀ xs ys : List D, wtAll (xs ++ ys) = wtAll xs + wtAll ys
  | [], ys => by rw [List.nil_append, wtAll, Nat.zero_add]
  | x :: xs, ys => by rw [List.cons_append, wtAll, wtAll, wtAll_app xs ys]; omega
theorem mix_ok {T : FSem} (hT : TakeOk T) {n : Nat} {F : FSem} (h : ∀ m, n = m + 1 → MixOk m F) : MixOk n (r_law_mixed T F) := by
  have node : ∀ (m : Nat) (d : D) (xs : List D), n = m + 1 → (d = .list xs ∨ d = .tuple xs) → xs.length ≤ 1000 → (∀ x ∈ xs, fit 1000 m x = true) → ∀ (t : Nat) (b : List D) (Q : D × List Sl → Prop), Box t b → t + wt d ≤ 1000000000 → (∀ y b', tupD y = tupD d → fit 1000 n y = true → Box (t + wt d) b' → Q (y, [.own b', .d d])) → wo (r_law_mixed T F [.own b, .d d]) Q := by
    intro m d xs e hd hl hx t b Q hb ht hq
    have hs : xs.length ≤ 16777216 := by omega
    have lc : ∀ (Q' : List D × DL.Env → Prop), (∀ ys b', ys.map tupD = xs.map tupD → (∀ y ∈ ys, fit 1000 m y = true) → Box (t + wtAll xs) b' → Q' (ys, [some (.own b'), some (.d d), none, none])) → wo (lcLoop (.nm 3) tTrue (mFn F [(.sl 0), (.sl 3)]) [3] xs [some (.own b), some (.d d), none, none]) Q' := by
      intro Q' hq'
      obtain ⟨I, hI⟩ : ∃ I : List D → List D → DL.Env → Prop, ∀ ds ys r, I ds ys r ↔ ∃ (b' : List D) (pre : List D), r = [some (.own b'), some (.d d), none, none] ∧ xs = pre ++ ds ∧ ys.map tupD = pre.map tupD ∧ (∀ y ∈ ys, fit 1000 m y = true) ∧ Box (t + wtAll pre) b' := ⟨_, fun _ _ _ => Iff.rfl⟩
      refine lc_inv I ?_ _ _ ((hI _ _ _).mpr ⟨b, [], rfl, rfl, rfl, by simp, by simpa [wtAll] using hb⟩) ?_
      · intro x ds ys r hi
        obtain ⟨b', pre, rfl, e1, e2, e3, hb'⟩ := (hI _ _ _).mp hi
        have wx : wtAll pre + (wt x + 2 + wtAll ds) = wtAll xs := by rw [e1, wtAll_app, wtAll]
        have wd : wt d = wtAll xs + 3 := wt_seq hd
        simp [woA, given, gv1, back, bk1, pad, envOf, ioOk, setsE, Tgs.len, Tg.ix, Tgs.ix, wipeE, restore]
        refine h m e _ b' x _ hb' (hx x (by rw [e1]; simp)) (by omega) fun y b2 hy hf hb2 => ?_
        simp [woA, given, gv1, back, bk1, pad, envOf, ioOk, setsE, Tgs.len, Tg.ix, Tgs.ix, wipeE, restore]
        refine (hI _ _ _).mpr ⟨b2, pre ++ [x], rfl, by rw [e1]; simp, by simp [e2, hy], fun z hz => ?_, hb2.mono (by rw [wtAll_app, wtAll, wtAll]; omega)⟩
        rcases List.mem_append.mp hz with hz | hz
        · exact e3 z hz
        · cases List.mem_singleton.mp hz; exact hf
      · intro ys r hi
        obtain ⟨b', pre, rfl, e1, e2, e3, hb'⟩ := (hI _ _ _).mp hi
        rw [List.append_nil] at e1
        subst e1
        exact hq' ys b' e2 e3 hb'
    have wd : wt d = wtAll xs + 3 := wt_seq hd
    have td : tupD d = .tuple (xs.map tupD) := by rcases hd with rfl | rfl <;> rw [tupD, tupL_map]
    have fin : ∀ (ys : List D) (y : D), (y = .list ys ∨ y = .tuple ys) → ys.map tupD = xs.map tupD → (∀ z ∈ ys, fit 1000 m z = true) → tupD y = tupD d ∧ fit 1000 n y = true := fun ys y hy e1 e2 => by
      have le : ys.length = xs.length := by have := congrArg List.length e1; simpa using this
      refine ⟨by rw [td, ← e1]; rcases hy with rfl | rfl <;> rw [tupD, tupL_map], ?_⟩
      subst e
      have ha : ys.all (fit 1000 m) = true := List.all_eq_true.mpr e2
      rcases hy with rfl | rfl <;> (unfold fit; rw [ha]; simp; omega)
    have e1 : isT2 "list" "tuple" d = some true := by rcases hd with rfl | rfl <;> simp [isT2, isT]
    unfold r_law_mixed b_law_mixed
    rcases hd with rfl | rfl
    all_goals
      simp [woA, given, gv1, back, bk1, pad, envOf, ioOk, setsE, Tgs.len, Tg.ix, Tgs.ix, wipeE, restore, hs]
      refine lc _ fun ys b' e1 e2 hb' => ?_
      have ys1 : ys.length ≤ 16777216 := by have := congrArg List.length e1; simp at this; omega
      simp [woA, given, gv1, back, bk1, pad, envOf, ioOk, setsE, Tgs.len, Tg.ix, Tgs.ix, wipeE, restore, ys1]
      refine hT _ b' 2 _ hb' (by omega) (by omega) (by omega) fun v b2 hb2 v0 v1 => ?_
      by_cases hv : v = 0
      · simp [woA, given, gv1, back, bk1, pad, envOf, ioOk, setsE, Tgs.len, Tg.ix, Tgs.ix, wipeE, restore, hv]
        obtain ⟨f1, f2⟩ := fin ys _ (.inl rfl) e1 e2
        exact hq _ b2 f1 f2 (hb2.mono (by omega))
      · simp [woA, given, gv1, back, bk1, pad, envOf, ioOk, setsE, Tgs.len, Tg.ix, Tgs.ix, wipeE, restore, hv, ys1]
        obtain ⟨f1, f2⟩ := fin ys _ (.inr rfl) e1 e2
        exact hq _ b2 f1 f2 (hb2.mono (by omega))
  intro t b d Q hb hf ht hq
  have lf : ∀ (d : D), isT2 "list" "tuple" d = some false → fit 1000 n d = true → (∀ y b', tupD y = tupD d → fit 1000 n y = true → Box (t + wt d) b' → Q (y, [.own b', .d d])) → wo (r_law_mixed T F [.own b, .d d]) Q := fun d e1 hf hq => by
    unfold r_law_mixed b_law_mixed
    simp [woA, given, gv1, back, bk1, pad, envOf, ioOk, setsE, Tgs.len, Tg.ix, Tgs.ix, wipeE, restore, e1]
    exact hq d b rfl hf (hb.mono (by omega))
  cases d with
  | none => exact lf _ (by simp [isT2, isT]) hf hq
  | bool _ => exact lf _ (by simp [isT2, isT]) hf hq
  | int _ => exact lf _ (by simp [isT2, isT]) hf hq
  | str _ => exact lf _ (by simp [isT2, isT]) hf hq
  | dict _ => exact (fit_dict hf).elim
  | list xs =>
    obtain ⟨m, e, h1, h2⟩ := fit_list hf
    exact node m _ xs e (.inl rfl) h1 h2 t b Q hb ht hq
  | tuple xs =>
    obtain ⟨m, e, h1, h2⟩ := fit_tuple hf
    exact node m _ xs e (.inr rfl) h1 h2 t b Q hb ht hq
end HL
namespace HL
open PySem PySem.Spec L2 DL
abbrev Mb := Str × Option Str
/-- a member behind all, or another timer of the last one -/
def cStep (s : List (List Mb) × Bool) (q : Q0) : List (List Mb) × Bool :=
  if timerB q.w then (match s.1.getLast? with
    | some c => (match c.getLast? with
      | some p => s.1.dropLast ++ [c.dropLast ++ [(p.1, some q.t)]]
      | none => s.1)
    | none => s.1, s.2)
  else (if s.2 then (match s.1.getLast? with
    | some c => s.1.dropLast ++ [c ++ [(q.t, none)]]
    | none => s.1) else s.1 ++ [[(q.t, none)]], linkB q.fs)
def chainsF (qs : List Q0) : List (List Mb) := (qs.foldl cStep ([], false)).1
structure Rw where
  found : List (List Mb)
  timer : Option Str
  rest : List Mb
def rStep (q : Q0) (r : Rw) : Rw :=
  if timerB q.w then ⟨r.found, some q.t, r.rest⟩
  else if (!linkB q.fs && !r.rest.isEmpty) = true then ⟨r.rest :: r.found, none, [(q.t, r.timer)]⟩ else ⟨r.found, none, (q.t, r.timer) :: r.rest⟩
def rowsR (qs : List Q0) : Rw := qs.foldr rStep ⟨[], none, []⟩
def rowsF (qs : List Q0) : List (List Mb) := (rowsR qs).rest :: (rowsR qs).found
/-- no timer behind a timer -/
def tOk : Bool → List Q0 → Bool
  | _, [] => true
  | pt, q :: qs => !(timerB q.w && pt) && tOk (timerB q.w) qs
theorem rows_nil : ∀ qs : List Q0, (rowsR qs).rest = [] → (rowsR qs).found = []
  | [], _ => rfl
  | q :: qs, h => by
    have ih := rows_nil qs
    show (rStep q (rowsR qs)).found = []
    have h' : (rStep q (rowsR qs)).rest = [] := h
    unfold rStep at h' ⊢
    split at h'
    · rename_i ht
      rw [if_pos ht]
      exact ih h'
    · rename_i ht
      split at h' <;> cases h'
theorem rows_timer : ∀ qs : List Q0, tOk true qs = true → (rowsR qs).timer = none
  | [], _ => rfl
  | q :: qs, h => by
    unfold tOk at h
    have ht : timerB q.w = false := by
      cases e : timerB q.w with
      | false => rfl
      | true => rw [e] at h; simp at h
    show (rStep q (rowsR qs)).timer = none
    unfold rStep
    rw [ht]
    simp only [Bool.false_eq_true, if_false]
    split <;> rfl
def setP (p : Mb) (t : Option Str) : Mb := match t with | some x => (p.1, some x) | none => p
def joinR (cs : List (List Mb)) (c : List Mb) (p : Mb) (go : Bool) (r : Rw) : List (List Mb) :=
  if r.rest.isEmpty then cs ++ [c ++ [setP p r.timer]]
  else if go then cs ++ [c ++ setP p r.timer :: r.rest] ++ r.found else cs ++ [c ++ [setP p r.timer]] ++ r.rest :: r.found
theorem fold_rows : ∀ (qs : List Q0) (cs : List (List Mb)) (c : List Mb) (p : Mb) (go pt : Bool), tOk pt qs = true → (qs.foldl cStep (cs ++ [c ++ [p]], go)).1 = joinR cs c p go (rowsR qs)
  | [], cs, c, p, go, pt, _ => by simp [joinR, rowsR, setP]
  | q :: qs, cs, c, p, go, pt, h => by
    unfold tOk at h
    rw [Bool.and_eq_true] at h
    obtain ⟨h1, h2⟩ := h
    rw [List.foldl_cons]
    have eR : rowsR (q :: qs) = rStep q (rowsR qs) := rfl
    rw [eR]
    cases ht : timerB q.w with
    | true =>
      rw [ht] at h2
      have e1 : cStep (cs ++ [c ++ [p]], go) q = (cs ++ [c ++ [(p.1, some q.t)]], go) := by
        unfold cStep
        rw [ht]
        simp
      rw [e1, fold_rows qs cs c (p.1, some q.t) go true h2]
      have e2 := rows_timer qs h2
      unfold rStep joinR
      rw [ht, e2]
      simp [setP]
    | false =>
      rw [ht] at h2
      have n0 := rows_nil qs
      have e3 : ∀ (cs' : List (List Mb)) (c' : List Mb), joinR cs' c' (q.t, none) (linkB q.fs) (rowsR qs) = cs' ++ [c' ++ (rStep q (rowsR qs)).rest] ++ (rStep q (rowsR qs)).found := fun cs' c' => by
        unfold joinR rStep
        rw [ht]
        cases hr : (rowsR qs).rest with
        | nil =>
          have := n0 hr
          cases hm : (rowsR qs).timer <;> simp [setP, this]
        | cons y ys =>
          cases hk : linkB q.fs <;> cases hm : (rowsR qs).timer <;> simp [setP]
      have e4 : (rStep q (rowsR qs)).rest.isEmpty = false ∧ (rStep q (rowsR qs)).timer = none := by
        unfold rStep
        rw [ht]
        simp only [Bool.false_eq_true, if_false]
        split <;> exact ⟨rfl, rfl⟩
      cases go with
      | true =>
        have e1 : cStep (cs ++ [c ++ [p]], true) q = (cs ++ [(c ++ [p]) ++ [(q.t, none)]], linkB q.fs) := by
          unfold cStep
          rw [ht]
          simp
        rw [e1, fold_rows qs cs (c ++ [p]) (q.t, none) _ false h2, e3]
        unfold joinR
        rw [e4.1, e4.2]
        simp [setP]
      | false =>
        have e1 : cStep (cs ++ [c ++ [p]], false) q = ((cs ++ [c ++ [p]]) ++ [[] ++ [(q.t, none)]], linkB q.fs) := by
          unfold cStep
          rw [ht]
          simp
        rw [e1, fold_rows qs (cs ++ [c ++ [p]]) [] (q.t, none) _ false h2, e3]
        unfold joinR
        rw [e4.1, e4.2]
        simp [setP]
theorem chains_rows {qs : List Q0} (h : tOk true qs = true) (h0 : qs ≠ []) : chainsF qs = rowsF qs := by
  cases qs with
  | nil => exact absurd rfl h0
  | cons q qs =>
    unfold tOk at h
    rw [Bool.and_eq_true] at h
    obtain ⟨h1, h2⟩ := h
    have ht : timerB q.w = false := by
      cases e : timerB q.w with
      | false => rfl
      | true => rw [e] at h1; simp at h1
    rw [ht] at h2
    unfold chainsF rowsF
    rw [List.foldl_cons]
    have e1 : cStep ([], false) q = ([] ++ [[] ++ [(q.t, none)]], linkB q.fs) := by
      unfold cStep
      rw [ht]
      simp
    rw [e1, fold_rows qs [] [] (q.t, none) _ false h2]
    have eR : rowsR (q :: qs) = rStep q (rowsR qs) := rfl
    rw [eR]
    have n0 := rows_nil qs
    unfold joinR rStep
    rw [ht]
    cases hr : (rowsR qs).rest with
    | nil =>
      have := n0 hr
      cases hm : (rowsR qs).timer <;> simp [setP, this]
    | cons y ys =>
      cases hk : linkB q.fs <;> cases hm : (rowsR qs).timer <;> simp [setP]
end HL
namespace HL
open PySem PySem.Spec L2 DL
def mbD (p : Mb) : D := .tuple [.str p.1, optD p.2]
def chD (c : List Mb) : D := .tuple (c.map mbD)
theorem ne_l {xs : List D} : fNe (.list xs) (.list []) = some (.bool (!xs.isEmpty)) := by
  rw [fNe_r (by cases xs <;> decide)]
  cases xs <;> rfl
def RowsOk (F : FSem) : Prop := ∀ qs : List Q0, qs.length ≤ 1000 → (∀ q ∈ qs, q.fs.length ≤ 1000) → F [.d (lotD qs)] = some (.list ((rowsF qs).map chD), [.d (lotD qs)])
theorem rows_len : ∀ qs : List Q0, (rowsR qs).rest.length ≤ qs.length ∧ (rowsR qs).found.length ≤ qs.length
  | [] => ⟨Nat.le_refl _, Nat.le_refl _⟩
  | q :: qs => by
    obtain ⟨h1, h2⟩ := rows_len qs
    show (rStep q (rowsR qs)).rest.length ≤ _ ∧ (rStep q (rowsR qs)).found.length ≤ _
    unfold rStep
    split
    · exact ⟨by simp; omega, by simp; omega⟩
    · split <;> simp <;> omega
theorem rows_ok : RowsOk r_law_rows := by
  intro qs hl hf
  refine wo_eq ?_
  unfold r_law_rows b_law_rows lotD
  have lz : (qs.map Q0.r).length ≤ 16777216 := by simp; omega
  have l0 : (qs.map Q0.r).length = qs.length := by simp
  generalize hM : qs.map Q0.r = M at *
  simp [woA, given, gv1, back, bk1, pad, envOf, ioOk, setsE, Tgs.len, Tg.ix, Tgs.ix, wipeE, restore]
  obtain ⟨I, hI⟩ : ∃ I : List D → DL.Env → Prop, ∀ ds r, I ds r ↔ ∃ (q1 q2 : List Q0) (a4 a5 a6 : Option D), qs = q1 ++ q2 ∧ ds = (q1.map Q0.r).reverse ∧ r = [some (.d (.tuple M)), some (.d (.list ((rowsR q2).found.map chD))), some (.d (optD (rowsR q2).timer)), some (.d (.list ((rowsR q2).rest.map mbD))), a4.map .d, a5.map .d, a6.map .d] := ⟨_, fun _ _ => Iff.rfl⟩
  refine for_inv I ?_ ?_ _ _ ((hI _ _).mpr ⟨qs, [], none, none, none, by simp, by rw [hM], rfl⟩)
  · intro d ds r hi
    obtain ⟨q1, q2, a4, a5, a6, e1, e2, rfl⟩ := (hI _ _).mp hi
    obtain ⟨q1', q, rfl⟩ : ∃ q1' q, q1 = q1' ++ [q] := by
      cases hq : q1 with
      | nil => rw [hq] at e2; simp at e2
      | cons a b => exact ⟨(a :: b).dropLast, (a :: b).getLast (by simp), (List.dropLast_concat_getLast (by simp)).symm⟩
    have e3 : d = q.r ∧ ds = (q1'.map Q0.r).reverse := by simpa using e2
    obtain ⟨rfl, rfl⟩ := e3
    have c4 : canB (some (a4.map Sl.d)) = true := by cases a4 <;> rfl
    have c5 : canB (some (a5.map Sl.d)) = true := by cases a5 <;> rfl
    have c6 : canB (some (a6.map Sl.d)) = true := by cases a6 <;> rfl
    have tw : (q.w == Str.ofString "linktimeout") = timerB q.w := rfl
    have eR : rowsR (q :: q2) = rStep q (rowsR q2) := rfl
    have next : ∀ b5 b6 : Option D, I (q1'.map Q0.r).reverse [some (.d (.tuple M)), some (.d (.list ((rStep q (rowsR q2)).found.map chD))), some (.d (optD (rStep q (rowsR q2)).timer)), some (.d (.list ((rStep q (rowsR q2)).rest.map mbD))), some (.d (.str q.t)), b5.map .d, b6.map .d] := fun b5 b6 =>
      (hI _ _).mpr ⟨q1', q :: q2, some (.str q.t), b5, b6, by rw [e1]; simp, rfl, rfl⟩
    obtain ⟨h1, h2⟩ := rows_len q2
    have ql : q2.length ≤ 1000 := by rw [e1] at hl; simp at hl; omega
    have l1 : ((rowsR q2).rest.map mbD).length ≤ 1000 := by simp; omega
    have l2 : ((rowsR q2).found.map chD).length ≤ 1000 := by simp; omega
    have hfs := hf q (by rw [e1]; simp)
    have f1 := flat_words q.fs
    have f2 := in_words q.fs
    have lk : linkB q.fs = (decide (Str.ofString "link" ∈ q.fs) || decide (Str.ofString "hard" ∈ q.fs)) := by
      rw [linkB_eq]
    have nx := next (some (.tuple (.str q.w :: q.rest))) (some (.tuple (q.fs.map PyData.str)))
    unfold rStep at nx
    rw [← tw, lk] at nx
    have em : ((rowsR q2).rest.map mbD).isEmpty = (rowsR q2).rest.isEmpty := by cases (rowsR q2).rest <;> rfl
    simp only [Q0.r, mkR] at *
    cases ht : (q.w == Str.ofString "linktimeout") with
    | true =>
      rw [ht] at nx
      have ht' : q.w = Str.ofString "linktimeout" := eq_of_beq ht
      simp only [if_true] at nx
      generalize hA : (rowsR q2).rest.map mbD = A at *
      generalize hB : (rowsR q2).found.map chD = B at *
      generalize hT : optD (rowsR q2).timer = T at *
      generalize hF : q.fs.map PyData.str = FS at *
      rw [ht'] at nx ⊢
      simp [woA, given, gv1, back, bk1, pad, envOf, ioOk, setsE, Tgs.len, Tg.ix, Tgs.ix, wipeE, restore, c4, c5, c6]
      exact nx
    | false =>
      rw [ht] at nx
      have ht' : ¬ q.w = Str.ofString "linktimeout" := by simpa using ht
      simp [woA, given, gv1, back, bk1, pad, envOf, ioOk, setsE, Tgs.len, Tg.ix, Tgs.ix, wipeE, restore, c4, c5, c6, ht']
      have a1 : (∀ (x : Str), x ∈ q.fs → ¬x = Str.ofString "link") ↔ ¬ Str.ofString "link" ∈ q.fs := ⟨fun h m => h _ m rfl, fun h x m e => h (e ▸ m)⟩
      have a2 : (∀ (x : Str), x ∈ q.fs → ¬x = Str.ofString "hard") ↔ ¬ Str.ofString "hard" ∈ q.fs := ⟨fun h m => h _ m rfl, fun h x m e => h (e ▸ m)⟩
      simp only [a1, a2]
      simp only [Bool.false_eq_true, if_false] at nx
      have lr : 1 + (rowsR q2).rest.length ≤ 16777216 := by omega
      have lf : 1 + (rowsR q2).found.length ≤ 16777216 := by omega
      by_cases m1 : Str.ofString "link" ∈ q.fs
      · simp only [m1, decide_true, Bool.true_or, Bool.not_true, Bool.false_and, Bool.false_eq_true, if_false] at nx
        simp only [m1, not_true, if_false]
        exact ⟨lr, nx⟩
      · by_cases m2 : Str.ofString "hard" ∈ q.fs
        · simp only [m1, m2, decide_true, decide_false, Bool.or_true, Bool.not_true, Bool.false_and, Bool.false_eq_true, if_false] at nx
          simp only [m1, m2, not_true, not_false_eq_true, if_true, if_false]
          exact ⟨lr, nx⟩
        · simp only [m1, m2, decide_false, Bool.or_false, Bool.not_false, Bool.true_and] at nx
          simp only [m1, m2, not_false_eq_true, if_true]
          rw [ne_l, em, y6]
          cases hr : (rowsR q2).rest with
          | nil =>
            rw [hr] at nx
            simp at nx
            simp [woA, given, gv1, back, bk1, pad, envOf, ioOk, setsE, Tgs.len, Tg.ix, Tgs.ix, wipeE, restore]
            exact nx
          | cons y ys =>
            rw [hr] at nx lr
            simp at nx
            simp only [List.length_cons] at lr
            have lr' : ys.length + 1 ≤ 16777216 := by omega
            simp [woA, given, gv1, back, bk1, pad, envOf, ioOk, setsE, Tgs.len, Tg.ix, Tgs.ix, wipeE, restore, lr', lf]
            exact nx
  · intro r hi
    obtain ⟨q1, q2, a4, a5, a6, e1, e2, rfl⟩ := (hI _ _).mp hi
    have : q1 = [] := by cases q1 with | nil => rfl | cons a b => simp at e2
    subst this
    have e1' : qs = q2 := by simpa using e1
    subst e1'
    obtain ⟨h1, h2⟩ := rows_len qs
    have l1 : ((rowsR qs).rest.map mbD).length ≤ 16777216 := by simp; omega
    have l2 : ((rowsR qs).found.map chD).length + 1 ≤ 16777216 := by simp; omega
    have ef : (rowsF qs).map chD = .tuple ((rowsR qs).rest.map mbD) :: (rowsR qs).found.map chD := by unfold rowsF; rw [List.map_cons]; rfl
    rw [ef]
    generalize (rowsR qs).rest.map mbD = A at *
    generalize (rowsR qs).found.map chD = B at *
    simp [woA, given, gv1, back, bk1, pad, envOf, ioOk, setsE, Tgs.len, Tg.ix, Tgs.ix, wipeE, restore, l1, l2]
    omega
end HL
namespace HL
open PySem PySem.Spec L2 DL
/-- a word of an event that is no put -/
def evW (w : Str) : Bool := !(w == wS "put") && decide (w.length ≤ 10)
theorem evW_ne {w : Str} (h : evW w = true) : w ≠ wS "put" := fun e => by rw [e] at h; simp [evW] at h
inductive EvD (ps : List Str) (n : Nat) : D → Prop
  | put (qs : List Q0) : GoodLot ps n qs → EvD ps n (.tuple [.str (wS "put"), lotD qs])
  | other (w : Str) (rest : List D) : evW w = true → rest.length ≤ 2 → (∀ x ∈ rest, fit 1000 0 x = true ∧ wt x ≤ 200) → EvD ps n (.tuple (.str w :: rest))
/-- what is left behind a draw of lots -/
structure Left (gg : Nat) (ns gs : List Str) : Prop where
  nw : ∀ s ∈ ns, wordB 8 s = true
  nd : ns.Nodup
  nl : ns.length ≤ 30
  gw : ∀ g ∈ gs, wordB 8 g = true
  gl : gs.length ≤ gg
theorem Left.mono {g g' : Nat} {ns gs : List Str} (h : Left g ns gs) (e : g ≤ g') : Left g' ns gs := ⟨h.nw, h.nd, h.nl, h.gw, Nat.le_trans h.gl e⟩
def EventOk (F : FSem) : Prop := ∀ (t : Nat) (b : List D) (sp ro : Int) (ps : List Str) (sl : List (Option Str)) (gg : Nat) (ns gs : List Str) (c : Int) (Q : D × List Sl → Prop), Box t b → SetupOk 1 sp ro ps sl → t + 220 ≤ 1000000000 → gg ≤ 90 → Left gg ns gs → 0 ≤ c → c ≤ 100 →
  (∀ e b' ns' gs' c', Box (t + 220) b' → EvD ps sl.length e → Left (gg + 8) ns' gs' → 0 ≤ c' → c' ≤ c + 4 → Q (e, [.own b', .d (mkSetup sp ro ps sl), .own (ns'.map PyData.str), .own (gs'.map PyData.str), .own [.int c']])) → wo (F [.own b, .d (mkSetup sp ro ps sl), .own (ns.map PyData.str), .own (gs.map PyData.str), .own [.int c]]) Q
theorem word_fw {m : Nat} {s : Str} (h : wordB m s = true) (hm : m ≤ 8) : fit 1000 0 (.str s) = true ∧ wt (.str s) ≤ 200 := by
  obtain ⟨_, h2⟩ := word_asc h
  refine ⟨by unfold fit; exact decide_eq_true (by omega), ?_⟩
  show 10 * s.length + 2 ≤ 200
  omega
theorem int_fw {i : Int} (h0 : 0 ≤ i) (h1 : i ≤ 1000) : fit 1000 0 (.int i) = true ∧ wt (.int i) ≤ 200 := ⟨rfl, by have := (nw_int (n := 0) h0 h1).2; omega⟩
theorem event_ok {T O L N : FSem} (hT : TakeOk T) (hO : OfOk O) (hL : AbcOk L) (hN : LawLotMk N) : EventOk (r_law_event T O L N) := by
  intro t b sp ro ps sl gg ns gs c Q hb hs ht hg hl c0 c1 hq
  have h1 := hs.least
  have h4 := hs.most
  have lp : (ps.map PyData.str).length = ps.length := by simp
  have nl0 : (ns.map PyData.str).length = ns.length := by simp
  have nlz : (ns.map PyData.str).length ≤ 16777216 := by have := hl.nl; rw [nl0]; omega
  have hq0 := fun e b' c' hb' he h0' h1' => hq e b' ns gs c' hb' he (hl.mono (by omega)) h0' h1'
  have pipe : ∀ (u : Nat) (bb : List D) (Q' : D × List Sl → Prop), Box u bb → u ≤ t + 1 → (∀ p b', p ∈ ps → Box (u + 1) b' → Q' (.str p, [.own b', .d (.tuple (ps.map PyData.str))])) → wo (O [.own bb, .d (.tuple (ps.map PyData.str))]) Q' := fun u bb Q' hbb hu hq' => by
    refine hO u bb _ (ps.map PyData.str) _ hbb (by omega) (.inr rfl) (by omega) (by omega) fun v b2 hb2 hv => ?_
    obtain ⟨p, hp, rfl⟩ := List.mem_map.mp hv
    exact hq' p b2 hp hb2
  have lot := fun (b1 : List D) (Q' : D × List Sl → Prop) (hb1 : Box (t + 1) b1) (h10 : 8 ≤ ns.length) (hq' : ∀ qs b' (ns' gs' : List Str), Box (t + 201) b' → GoodLot ps sl.length qs → Left (gg + 8) ns' gs' → Q' (lotD qs, [.own b', .d (mkSetup sp ro ps sl), .own (ns'.map PyData.str), .own (gs'.map PyData.str), .d (.int 4)])) =>
    hN (t + 1) b1 sp ro ps sl 4 gg ns gs Q' hb1 hs (by omega) (by omega) (by omega) (by omega) (by omega) hl.nl hl.nw hl.nd hl.gw hl.gl fun qs b' ns' gs' hb' gd a1 a2 a3 a4 a5 => hq' qs b' ns' gs' (hb'.mono (by omega)) gd ⟨a1, a2, a3, a4, by omega⟩
  have wp : ∀ p ∈ ps, fit 1000 0 (.str p) = true ∧ wt (.str p) ≤ 200 := fun p hp => word_fw (hs.word p hp) (Nat.le_refl 8)
  have ne : ∀ w : Str, evW w = true → evW w = true := fun w h => h
  unfold mkSetup at *
  generalize hP : ps.map PyData.str = P at *
  generalize hZ : sl.map optD = Z at *
  generalize hG : gs.map PyData.str = G at *
  generalize hNs : ns.map PyData.str = NS at *
  unfold r_law_event b_law_event
  simp [woA, given, gv1, back, bk1, pad, envOf, ioOk, setsE, Tgs.len, Tg.ix, Tgs.ix, wipeE, restore]
  refine hT t b 12 _ hb (by omega) (by omega) (by omega) fun v b1 hb1 v0 v1 => ?_
  simp [woA, given, gv1, back, bk1, pad, envOf, ioOk, setsE, Tgs.len, Tg.ix, Tgs.ix, wipeE, restore, nlz]
  have one : ∀ (w : Str) (x : D), evW w = true → fit 1000 0 x = true ∧ wt x ≤ 200 → EvD ps sl.length (.tuple [.str w, x]) := fun w x h1 h2 => .other w [x] h1 (by simp) fun y hy => by cases List.mem_singleton.mp hy; exact h2
  by_cases k1 : v < 4
  · by_cases k2 : 9 < (NS.length : Int)
    · simp only [k1, k2, if_true]
      refine lot b1 _ hb1 (by omega) fun qs b2 ns' gs' hb2 gd lf => ?_
      simp [woA, given, gv1, back, bk1, pad, envOf, ioOk, setsE, Tgs.len, Tg.ix, Tgs.ix, wipeE, restore]
      exact hq _ b2 ns' gs' c (hb2.mono (by omega)) (.put qs gd) lf c0 (by omega)
    · have k3 : v < 6 := by omega
      simp only [k1, k2, k3, if_true, if_false]
      refine pipe _ b1 _ hb1 (by omega) fun p b2 hp hb2 => ?_
      simp [woA, given, gv1, back, bk1, pad, envOf, ioOk, setsE, Tgs.len, Tg.ix, Tgs.ix, wipeE, restore]
      refine hL _ b2 3 _ hb2 (by omega) (by omega) (by omega) fun s b3 hb3 hs3 => ?_
      simp [woA, given, gv1, back, bk1, pad, envOf, ioOk, setsE, Tgs.len, Tg.ix, Tgs.ix, wipeE, restore]
      exact hq0 _ b3 c (hb3.mono (by omega)) (.other _ _ (ne _ (by decide +kernel)) (by simp) (by
        intro x hx
        simp at hx
        rcases hx with rfl | rfl
        · exact wp _ hp
        · exact word_fw hs3 (by omega))) c0 (by omega)
  · by_cases k3 : v < 6
    · simp only [k1, k3, if_true, if_false]
      refine pipe _ b1 _ hb1 (by omega) fun p b2 hp hb2 => ?_
      simp [woA, given, gv1, back, bk1, pad, envOf, ioOk, setsE, Tgs.len, Tg.ix, Tgs.ix, wipeE, restore]
      refine hL _ b2 3 _ hb2 (by omega) (by omega) (by omega) fun s b3 hb3 hs3 => ?_
      simp [woA, given, gv1, back, bk1, pad, envOf, ioOk, setsE, Tgs.len, Tg.ix, Tgs.ix, wipeE, restore]
      exact hq0 _ b3 c (hb3.mono (by omega)) (.other _ _ (ne _ (by decide +kernel)) (by simp) (by
        intro x hx
        simp at hx
        rcases hx with rfl | rfl
        · exact wp _ hp
        · exact word_fw hs3 (by omega))) c0 (by omega)
    · by_cases k4 : v = 6
      · subst k4
        simp [woA, given, gv1, back, bk1, pad, envOf, ioOk, setsE, Tgs.len, Tg.ix, Tgs.ix, wipeE, restore]
        refine pipe _ b1 _ hb1 (by omega) fun p b2 hp hb2 => ?_
        simp [woA, given, gv1, back, bk1, pad, envOf, ioOk, setsE, Tgs.len, Tg.ix, Tgs.ix, wipeE, restore]
        refine hT _ b2 3 _ hb2 (by omega) (by omega) (by omega) fun m b3 hb3 m0 m1 => ?_
        simp [woA, given, gv1, back, bk1, pad, envOf, ioOk, setsE, Tgs.len, Tg.ix, Tgs.ix, wipeE, restore]
        exact hq0 _ b3 c (hb3.mono (by omega)) (.other _ _ (ne _ (by decide +kernel)) (by simp) (by
          intro x hx
          simp at hx
          rcases hx with rfl | rfl
          · exact wp _ hp
          · exact int_fw (by omega) (by omega))) c0 (by omega)
      · by_cases k5 : v < 9
        · simp only [k1, k3, k4, k5, if_true, if_false]
          refine hT _ b1 4 _ hb1 (by omega) (by omega) (by omega) fun m b3 hb3 m0 m1 => ?_
          simp [woA, given, gv1, back, bk1, pad, envOf, ioOk, setsE, Tgs.len, Tg.ix, Tgs.ix, wipeE, restore]
          exact hq0 _ b3 c (hb3.mono (by omega)) (one _ _ (by decide +kernel) (int_fw (by omega) (by omega))) c0 (by omega)
        · by_cases k6 : v = 9
          · subst k6
            simp [woA, given, gv1, back, bk1, pad, envOf, ioOk, setsE, Tgs.len, Tg.ix, Tgs.ix, wipeE, restore, ixN_in]
            refine hT _ b1 4 _ hb1 (by omega) (by omega) (by omega) fun m b3 hb3 m0 m1 => ?_
            simp [woA, given, gv1, back, bk1, pad, envOf, ioOk, setsE, Tgs.len, Tg.ix, Tgs.ix, wipeE, restore, ixN_in]
            exact hq0 _ b3 _ (hb3.mono (by omega)) (one _ _ (by decide +kernel) (int_fw (by omega) (by omega))) (by omega) (by omega)
          · by_cases k7 : v = 10
            · subst k7
              simp [woA, given, gv1, back, bk1, pad, envOf, ioOk, setsE, Tgs.len, Tg.ix, Tgs.ix, wipeE, restore]
              refine hT _ b1 2 _ hb1 (by omega) (by omega) (by omega) fun m b3 hb3 m0 m1 => ?_
              simp [woA, given, gv1, back, bk1, pad, envOf, ioOk, setsE, Tgs.len, Tg.ix, Tgs.ix, wipeE, restore]
              exact hq0 _ b3 c (hb3.mono (by omega)) (one _ _ (by decide +kernel) (int_fw (by omega) (by omega))) c0 (by omega)
            · simp only [k1, k3, k4, k5, k6, k7, if_true, if_false]
              exact hq0 _ b1 c (hb1.mono (by omega)) (.other _ [] (ne _ (by decide +kernel)) (by simp) (by simp)) c0 (by omega)
end HL
namespace HL
open PySem PySem.Spec L2 DL
def ScriptOk (F : FSem) : Prop := ∀ (t : Nat) (b : List D) (sp ro : Int) (ps : List Str) (sl : List (Option Str)) (m : Nat) (Q : D × List Sl → Prop), Box t b → SetupOk 1 sp ro ps sl → t + 3000 ≤ 1000000000 → m ≤ 9 →
  (∀ es b', Box (t + 3000) b' → es.length ≤ 12 → (∀ e ∈ es, EvD ps sl.length e) → Q (.tuple es, [.own b', .d (mkSetup sp ro ps sl), .d (.int m)])) → wo (F [.own b, .d (mkSetup sp ro ps sl), .d (.int m)]) Q
theorem script_ok {T L E : FSem} {M : FNew} (hT : TakeOk T) (hM : NamesOk M) (hN : LawLotMk L) (hE : EventOk E) : ScriptOk (r_law_named_script T M L E) := by
  intro t b sp ro ps sl m Q hb hs ht hm hq
  have nt : ∀ x ∈ [.tuple [.str (wS "stop")]], EvD ps sl.length x := fun x hx => by
    cases List.mem_singleton.mp hx
    exact .other (wS "stop") [] (by decide +kernel) (by simp) (by simp)
  generalize hS : mkSetup sp ro ps sl = S at *
  unfold r_law_named_script b_law_named_script
  simp [woA, given, gv1, back, bk1, pad, envOf, ioOk, setsE, Tgs.len, Tg.ix, Tgs.ix, wipeE, restore]
  refine hM t b 24 _ hb (by omega) (by omega) fun ss b1 hb1 sl1 sw snd => ?_
  simp [woA, given, gv1, back, bk1, pad, envOf, ioOk, setsE, Tgs.len, Tg.ix, Tgs.ix, wipeE, restore]
  subst hS
  refine hN _ b1 sp ro ps sl 4 0 ss [] _ hb1 hs (by omega) (by omega) (by omega) (by omega) (by omega) (by omega) sw snd (by simp) (by simp) fun qs b2 ns' gs' hb2 gd a1 a2 a3 a4 a5 => ?_
  generalize hS : mkSetup sp ro ps sl = S at *
  simp [woA, given, gv1, back, bk1, pad, envOf, ioOk, setsE, Tgs.len, Tg.ix, Tgs.ix, wipeE, restore]
  refine hT _ b2 (m + 1) _ hb2 (by omega) (by omega) (by omega) fun c b3 hb3 c0 c1 => ?_
  simp [woA, given, gv1, back, bk1, pad, envOf, ioOk, setsE, Tgs.len, Tg.ix, Tgs.ix, wipeE, restore, rangeD_len]
  refine ⟨by omega, ?_⟩
  obtain ⟨I, hI⟩ : ∃ I : List D → DL.Env → Prop, ∀ ds r, I ds r ↔ ∃ (b' : List D) (ns gs : List Str) (c' : Int) (es : List D) (k : Nat) (a7 : Option Sl), canB (some a7) = true ∧ r = [some (.own b'), some (.d S), some (.d (.int m)), some (.own (ns.map PyData.str)), some (.own (gs.map PyData.str)), some (.own [.int c']), some (.own es), a7] ∧ Box (t + 681 + 220 * k) b' ∧ k + ds.length = c.toNat ∧ Left (8 + 8 * k) ns gs ∧ 0 ≤ c' ∧ c' ≤ 4 * k ∧ es.length = k + 1 ∧ ∀ e ∈ es, EvD ps sl.length e := ⟨_, fun _ _ => Iff.rfl⟩
  refine for_inv I ?_ ?_ _ _ ((hI _ _).mpr ⟨b3, ns', gs', 0, _, 0, none, rfl, rfl, hb3.mono (by omega), by simp [rangeD_len], ⟨a1, a2, a3, a4, by omega⟩, by omega, by omega, rfl, fun e he => by cases List.mem_singleton.mp he; exact .put qs gd⟩)
  · intro d ds r h
    obtain ⟨b', ns, gs, c', es, k, a7, h7, rfl, hb', hk, lf, d0, d1, el, ev⟩ := (hI _ _).mp h
    simp only [List.length_cons] at hk
    have el' : es.length < 16777216 := by omega
    simp [woA, given, gv1, back, bk1, pad, envOf, ioOk, setsE, Tgs.len, Tg.ix, Tgs.ix, wipeE, restore, h7]
    subst hS
    refine hE _ b' sp ro ps sl _ ns gs c' _ hb' hs (by omega) (by omega) lf d0 (by omega) fun e b4 n4 g4 c4 hb4 he lf4 e0 e1 => ?_
    simp [woA, given, gv1, back, bk1, pad, envOf, ioOk, setsE, Tgs.len, Tg.ix, Tgs.ix, wipeE, restore, el']
    refine (hI _ _).mpr ⟨b4, n4, g4, c4, es ++ [e], k + 1, some (.d d), rfl, rfl, hb4.mono (by omega), by omega, lf4.mono (by omega), e0, by omega, by simp [el], fun x hx => ?_⟩
    rcases List.mem_append.mp hx with hx | hx
    · exact ev x hx
    · cases List.mem_singleton.mp hx; exact he
  · intro r h
    obtain ⟨b', ns, gs, c', es, k, a7, h7, rfl, hb', hk, lf, d0, d1, el, ev⟩ := (hI _ _).mp h
    simp only [List.length_nil, Nat.add_zero] at hk
    have el1 : es.length ≤ 16777216 := by omega
    have el2 : es.length < 16777216 := by omega
    simp [woA, given, gv1, back, bk1, pad, envOf, ioOk, setsE, Tgs.len, Tg.ix, Tgs.ix, wipeE, restore]
    refine hT _ b' 6 _ hb' (by omega) (by omega) (by omega) fun v b4 hb4 v0 v1 => ?_
    by_cases hv : v = 0
    · simp [woA, given, gv1, back, bk1, pad, envOf, ioOk, setsE, Tgs.len, Tg.ix, Tgs.ix, wipeE, restore, hv, el1]
      refine hT _ b4 (es.length + 1) _ hb4 (by omega) (by omega) (by omega) fun u b5 hb5 u0 u1 => ?_
      have u2 : u < 1000000 := by omega
      have tl : (es.take u.toNat ++ [PyData.tuple [PyData.str (Str.ofString "stop")]] ++ es.drop u.toNat).length = es.length + 1 := by simp; omega
      have ev2 : ∀ x ∈ es.take u.toNat ++ [PyData.tuple [PyData.str (Str.ofString "stop")]] ++ es.drop u.toNat, EvD ps sl.length x := fun x hx => by
        rcases List.mem_append.mp hx with hx | hx
        · rcases List.mem_append.mp hx with hx | hx
          · exact ev x (List.mem_of_mem_take hx)
          · exact nt x hx
        · exact ev x (List.mem_of_mem_drop hx)
      generalize hZ : es.take u.toNat ++ [PyData.tuple [PyData.str (Str.ofString "stop")]] ++ es.drop u.toNat = Z at *
      have hZ' : es.take u.toNat ++ PyData.tuple [PyData.str (Str.ofString "stop")] :: es.drop u.toNat = Z := by rw [← hZ]; simp
      have tz : Z.length ≤ 16777216 := by omega
      simp [woA, given, gv1, back, bk1, pad, envOf, ioOk, setsE, Tgs.len, Tg.ix, Tgs.ix, wipeE, restore, u0, u2, el2, hZ', tz]
      exact hq Z b5 (hb5.mono (by omega)) (by omega) ev2
    · simp [woA, given, gv1, back, bk1, pad, envOf, ioOk, setsE, Tgs.len, Tg.ix, Tgs.ix, wipeE, restore, hv, el1]
      exact hq es b4 (hb4.mono (by omega)) (by omega) ev
end HL
namespace HL
open PySem PySem.Spec L2 DL
def Seq (d : D) (xs : List D) : Prop := d = .list xs ∨ d = .tuple xs
theorem tup_seq {d : D} {xs : List D} (h : Seq d xs) : tupD d = .tuple (xs.map tupD) := by rcases h with rfl | rfl <;> rw [tupD, tupL_map]
theorem seq_of {d : D} {zs : List D} (h : tupD d = .tuple zs) : ∃ xs, Seq d xs ∧ xs.map tupD = zs := by
  cases d with
  | list xs => exact ⟨xs, .inl rfl, by rw [tupD, tupL_map] at h; cases h; rfl⟩
  | tuple xs => exact ⟨xs, .inr rfl, by rw [tupD, tupL_map] at h; cases h; rfl⟩
  | none => cases h
  | bool _ => cases h
  | int _ => cases h
  | str _ => cases h
  | dict _ => cases h
theorem strT_of {d : D} {s : Str} (h : tupD d = .str s) : d = .str s := by
  cases d with
  | list xs => rw [tupD] at h; cases h
  | tuple xs => rw [tupD] at h; cases h
  | none => cases h
  | bool _ => cases h
  | int _ => cases h
  | str _ => exact h
  | dict _ => cases h
/-- the tags of an event -/
def evT : D → List D
  | .tuple [.str w, .tuple rs] => if w == wS "put" then rs.map fun r => match r with | .tuple (x :: _) => x | _ => .none else []
  | _ => []
/-- events that are read alike -/
structure EvT (e : D) : Prop where
  put : (∃ qs : List Q0, qs.length ≤ 12 ∧ e = .tuple [.str (wS "put"), lotD qs]) ∨ ∃ (w : Str) (rest : List D), w ≠ wS "put" ∧ e = .tuple (.str w :: rest)
theorem evT_put (qs : List Q0) : evT (.tuple [.str (wS "put"), lotD qs]) = qs.map fun q => .str q.t := by
  simp [evT, lotD]
theorem evT_other {w : Str} {rest : List D} (h : w ≠ wS "put") : evT (.tuple (.str w :: rest)) = [] := by
  unfold evT
  split
  · rename_i w' rs e
    cases e
    rw [if_neg (by simpa using h)]
  · rfl
theorem evd_t {ps : List Str} {n : Nat} {e : D} (h : EvD ps n e) : EvT e := by
  cases h with
  | put qs g => exact ⟨.inl ⟨qs, g.l8, rfl⟩⟩
  | other w rest h _ _ => exact ⟨.inr ⟨w, rest, evW_ne h, rfl⟩⟩
def TagsOk (F : FSem) : Prop := ∀ (y : D) (es : List D), es.length ≤ 100 → (∀ e ∈ es, EvT e) → tupD y = tupD (.tuple es) → F [.d y] = some (.tuple (es.flatMap evT), [.d y])
theorem ix0 (n : Nat) : ixN (n + 1) 0 = some 0 := ixN_in (by omega) (by omega)
theorem at0 {x : D} {xs : List D} : atI (x :: xs) 0 = some x := by
  unfold atI
  rw [List.length_cons, ix0]
  all_goals rfl
/-- the first part -/
def hdD : D → D
  | .list (x :: _) => x
  | .tuple (x :: _) => x
  | _ => .none
theorem hd_map : ∀ {rs : List D} {qs : List Q0}, rs.map tupD = (qs.map Q0.r).map tupD → rs.map hdD = (qs.map fun q => PyData.str q.t) ∧ ∀ r ∈ rs, ∃ x xs, Seq r (x :: xs)
  | [], [], _ => ⟨rfl, by simp⟩
  | [], q :: qs, h => by simp at h
  | r :: rs, [], h => by simp at h
  | r :: rs, q :: qs, h => by
    rw [List.map_cons, List.map_cons, List.map_cons] at h
    obtain ⟨h1, h2⟩ := List.cons.inj h
    obtain ⟨i1, i2⟩ := hd_map h2
    obtain ⟨xs, sx, ex⟩ := seq_of (h1.trans (tup_seq (.inr rfl)))
    cases xs with
    | nil => simp at ex
    | cons x xs =>
      rw [List.map_cons, List.map_cons] at ex
      have e0 : tupD x = .str q.t := (List.cons.inj ex).1
      have e1 := strT_of e0
      refine ⟨?_, fun z hz => ?_⟩
      · rw [List.map_cons, List.map_cons, i1]
        rcases sx with rfl | rfl <;> rw [← e1] <;> rfl
      · rcases List.mem_cons.mp hz with rfl | hz
        · exact ⟨x, xs, sx⟩
        · exact i2 z hz
theorem flat_len : ∀ {es : List D}, (∀ e ∈ es, EvT e) → (es.flatMap evT).length ≤ 12 * es.length
  | [], _ => by simp
  | e :: es, h => by
    rw [List.flatMap_cons, List.length_append, List.length_cons]
    have := flat_len fun x hx => h x (List.mem_cons_of_mem _ hx)
    have h1 : (evT e).length ≤ 12 := by
      rcases (h e List.mem_cons_self).put with ⟨qs, hq, rfl⟩ | ⟨w, rest, hw, rfl⟩
      · rw [evT_put, List.length_map]; exact hq
      · rw [evT_other hw]; simp
    omega
theorem tags_ok : TagsOk r_tags := by
  intro y es hl he hy
  refine wo_eq ?_
  obtain ⟨ys, sy, ey⟩ := seq_of (hy.trans (tup_seq (.inr rfl)))
  have lys : ys.length = es.length := by have := congrArg List.length ey; simpa using this
  have loop : ∀ (Q : Fl × DL.Env → Prop), (∀ a2 : Option Sl, Q (.nx, [some (.d y), some (.own (es.flatMap evT)), a2, none])) → wo (forL (.nm 2) (q6 (sExpr (mExtend 1 (mIf (tBin true (.ex (mBin true (.sl 2) (.ex (j8 (.int 0))) fIx)) (.ex (j8 (.str (Str.ofString "put")))) fEq) (listOf (nLc (iData (.ex (mBin true (.sl 2) (.ex (j8 (.int 1))) fIx))) (.nm 3) tTrue (mBin true (.sl 3) (.ex (j8 (.int 0))) fIx))) (listOf (nLst j7))))) sNext) ys [some (.d y), some (.own []), none, none]) Q := by
    intro Q hQ
    obtain ⟨I, hI⟩ : ∃ I : List D → DL.Env → Prop, ∀ ds r, I ds r ↔ ∃ (pre suf : List D) (a2 : Option D), es = pre ++ suf ∧ ds.map tupD = suf.map tupD ∧ r = [some (.d y), some (.own (pre.flatMap evT)), a2.map .d, none] := ⟨_, fun _ _ => Iff.rfl⟩
    refine for_inv I ?_ ?_ _ _ ((hI _ _).mpr ⟨[], es, none, rfl, ey, rfl⟩)
    · intro d ds r hi
      obtain ⟨pre, suf, a2, e1, e2, rfl⟩ := (hI _ _).mp hi
      cases suf with
      | nil => simp at e2
      | cons e suf =>
        rw [List.map_cons, List.map_cons] at e2
        obtain ⟨e3, e4⟩ := List.cons.inj e2
        have c2 : canB (some (a2.map Sl.d)) = true := by cases a2 <;> rfl
        have et := he e (by rw [e1]; simp)
        have nx : I ds [some (.d y), some (.own (pre.flatMap evT ++ evT e)), some (.d d), none] := (hI _ _).mpr ⟨pre ++ [e], suf, some d, by rw [e1]; simp, e4, by simp⟩
        have lp : (pre.flatMap evT).length ≤ 12 * pre.length := flat_len fun x hx => he x (by rw [e1]; simp [hx])
        have pl : pre.length ≤ 100 := by rw [e1] at hl; simp at hl; omega
        generalize hA : pre.flatMap evT = A at *
        rcases et.put with ⟨qs, hq, rfl⟩ | ⟨w, rest, hw, rfl⟩
        · rw [evT_put] at nx
          obtain ⟨zs, sz, ez⟩ := seq_of (e3.trans (tup_seq (.inr rfl)))
          obtain ⟨z0, z1, rfl⟩ : ∃ z0 z1, zs = [z0, z1] := by
            cases zs with
            | nil => simp at ez
            | cons a as => cases as with
              | nil => simp at ez
              | cons b bs => cases bs with
                | nil => exact ⟨a, b, rfl⟩
                | cons _ _ => simp at ez
          simp only [List.map_cons, List.map_nil, List.cons.injEq, and_true] at ez
          obtain ⟨g0, g1⟩ := ez
          have g0' := strT_of (s := wS "put") g0
          subst g0'
          obtain ⟨rs, sr, er⟩ := seq_of (g1.trans (tup_seq (.inr rfl)))
          obtain ⟨i1, i2⟩ := hd_map er
          have lrs : rs.length = qs.length := by have := congrArg List.length er; simpa using this
          have lc : ∀ r : DL.Env, r = [some (.d y), some (.own A), some (.d d), none] → lcLoop (.nm 3) tTrue (mBin true (.sl 3) (.ex (j8 (.int 0))) fIx) [3] rs r = some (rs.map hdD, r) := by
            rintro r rfl
            refine lc_map hdD fun x hx => ?_
            obtain ⟨x0, xs, hs⟩ := i2 x hx
            refine ⟨[some (.d y), some (.own A), some (.d d), some (.d x)], wo_eq (by simp [woA, given, gv1, back, bk1, pad, envOf, ioOk, setsE, Tgs.len, Tg.ix, Tgs.ix, wipeE, restore]), wo_eq ?_, by simp [wipeE]⟩
            rcases hs with rfl | rfl <;> simp [woA, given, gv1, back, bk1, pad, envOf, ioOk, setsE, Tgs.len, Tg.ix, Tgs.ix, wipeE, restore, at0, ix0, hdD]
          have lA : A.length + rs.length ≤ 16777216 := by omega
          have lsr : rs.length ≤ 16777216 := by omega
          rw [← i1] at nx
          rcases sz with rfl | rfl <;> rcases sr with rfl | rfl
          all_goals
            simp [woA, given, gv1, back, bk1, pad, envOf, ioOk, setsE, Tgs.len, Tg.ix, Tgs.ix, wipeE, restore, c2, ixN_in, lc, lsr, lA]
            exact nx
        · rw [evT_other hw, List.append_nil] at nx
          obtain ⟨zs, sz, ez⟩ := seq_of (e3.trans (tup_seq (.inr rfl)))
          cases zs with
          | nil => simp at ez
          | cons z0 zs =>
            rw [List.map_cons, List.map_cons] at ez
            have g0 := strT_of (s := w) (List.cons.inj ez).1
            subst g0
            have hw' : ¬ w = Str.ofString "put" := hw
            have lA : A.length ≤ 16777216 := by omega
            rcases sz with rfl | rfl
            all_goals
              simp [woA, given, gv1, back, bk1, pad, envOf, ioOk, setsE, Tgs.len, Tg.ix, Tgs.ix, wipeE, restore, c2, at0, ix0, hw', lA]
              exact nx
    · intro r hi
      obtain ⟨pre, suf, a2, e1, e2, rfl⟩ := (hI _ _).mp hi
      have : suf = [] := by cases suf with | nil => rfl | cons a b => simp at e2
      subst this
      rw [List.append_nil] at e1
      subst e1
      exact hQ _
  have lf := flat_len he
  unfold r_tags b_tags
  have lz : (es.flatMap evT).length ≤ 16777216 := by omega
  generalize es.flatMap evT = Z at *
  rcases sy with rfl | rfl
  · simp [woA, given, gv1, back, bk1, pad, envOf, ioOk, setsE, Tgs.len, Tg.ix, Tgs.ix, wipeE, restore]
    refine loop _ fun a2 => ?_
    simp [woA, given, gv1, back, bk1, pad, envOf, ioOk, setsE, Tgs.len, Tg.ix, Tgs.ix, wipeE, restore, lz]
  · simp [woA, given, gv1, back, bk1, pad, envOf, ioOk, setsE, Tgs.len, Tg.ix, Tgs.ix, wipeE, restore]
    refine loop _ fun a2 => ?_
    simp [woA, given, gv1, back, bk1, pad, envOf, ioOk, setsE, Tgs.len, Tg.ix, Tgs.ix, wipeE, restore, lz]
end HL
namespace GW
open PySem PySem.Spec GH
open L2 (Key)
def gw {α : Type} (m : Option (α × Hh)) (Q : α → Hh → Prop) : Prop := ∃ x h, m = some (x, h) ∧ Q x h
def gs (m : Option (Fl × Fr × Hh)) (Q : Fl → Fr → Hh → Prop) : Prop := ∃ f fr h, m = some (f, fr, h) ∧ Q f fr h
/-- there is one, and it meets P -/
def so {α : Type} (o : Option α) (P : α → Prop) : Prop := ∃ x, o = some x ∧ P x
section
variable {α : Type} {Q : α → Hh → Prop} {x : α} {h : Hh}
@[simp] theorem gw_none : gw (none : Option (α × Hh)) Q ↔ False := ⟨fun ⟨_, _, e, _⟩ => (by cases e), False.elim⟩
@[simp] theorem gw_some : gw (some (x, h)) Q ↔ Q x h := ⟨fun ⟨_, _, e, q⟩ => by cases e; exact q, fun q => ⟨_, _, rfl, q⟩⟩
theorem gw.imp {m : Option (α × Hh)} {Q' : α → Hh → Prop} (a : gw m Q) (f : ∀ x h, Q x h → Q' x h) : gw m Q' := by
  obtain ⟨x, h, e, q⟩ := a
  exact ⟨x, h, e, f _ _ q⟩
@[simp] theorem so_some {P : α → Prop} : so (some x) P ↔ P x := ⟨fun ⟨_, e, q⟩ => by cases e; exact q, fun q => ⟨_, rfl, q⟩⟩
@[simp] theorem so_none {P : α → Prop} : so (none : Option α) P ↔ False := ⟨fun ⟨_, e, _⟩ => (by cases e), False.elim⟩
end
section
variable {R : Fl → Fr → Hh → Prop} {f : Fl} {fr : Fr} {h : Hh}
@[simp] theorem gs_none : gs none R ↔ False := ⟨fun ⟨_, _, _, e, _⟩ => (by cases e), False.elim⟩
@[simp] theorem gs_some : gs (some (f, fr, h)) R ↔ R f fr h := ⟨fun ⟨_, _, _, e, q⟩ => by cases e; exact q, fun q => ⟨_, _, _, rfl, q⟩⟩
theorem gs.imp {m : Option (Fl × Fr × Hh)} {R' : Fl → Fr → Hh → Prop} (a : gs m R) (g : ∀ f fr h, R f fr h → R' f fr h) : gs m R' := by
  obtain ⟨x, y, h, e, q⟩ := a
  exact ⟨x, y, h, e, g _ _ _ q⟩
end
/-- by cases on what a part gives -/
local macro_rules | `(tactic| trivial) => `(tactic| (simp only [gw_none, gw_some, gs_none, gs_some, so_none, so_some] <;> done))
section
variable {ma mb mc m mo me mk mv : ME} {ta tb t : MT} {n : ML} {s u : MS} {src : MI} {fr : Fr} {h : Hh} {Q : CV → Hh → Prop} {QL : List CV → Hh → Prop} {QB : Bool → Hh → Prop} {R : Fl → Fr → Hh → Prop} {i j cn : Nat}
theorem gw_var : gw (j9 i fr h) Q ↔ so (fr[i]?) fun o => so o fun x => Q x h := by
  unfold j9
  rcases fr[i]? with _ | _ | x <;> simp
theorem gw_cst {c : D} : gw (gL (DL.j8 c) fr h) Q ↔ Q (.d c) h := by
  unfold gL DL.j8
  simp
theorem gw_nil : gw (j7 fr h) QL ↔ QL [] h := by unfold j7; simp
theorem gw_cons : gw (j6 m n fr h) QL ↔ gw (m fr h) fun x h1 => gw (n fr h1) fun xs h2 => QL (x :: xs) h2 := by
  unfold j6
  rcases m fr h with _ | ⟨x, h1⟩
  · simp
  · simp only [gw_some]
    rcases n fr h1 with _ | ⟨xs, h2⟩ <;> simp
def tupC (xs : List CV) : CV := match dats xs with | some ds => .d (.tuple ds) | none => .tup xs
theorem gw_tup : gw (gTup n fr h) Q ↔ gw (n fr h) fun xs h1 => xs.length ≤ sizeLine ∧ Q (tupC xs) h1 := by
  unfold gTup tupC
  rcases n fr h with _ | ⟨xs, h1⟩
  · simp
  · simp only [gw_some]
    by_cases hl : xs.length ≤ sizeLine
    · rw [if_pos hl]
      cases dats xs <;> simp [hl]
    · rw [if_neg hl]
      simp [hl]
theorem gw_lst : gw (nLst n fr h) QL ↔ gw (n fr h) fun xs h1 => xs.length ≤ sizeLine ∧ QL xs h1 := by
  unfold nLst
  rcases n fr h with _ | ⟨xs, h1⟩
  · simp
  · simp only [gw_some]
    by_cases hl : xs.length ≤ sizeLine
    · rw [if_pos hl]; simp [hl]
    · rw [if_neg hl]; simp [hl]
theorem gw_dat : gw (gDat n fr h) Q ↔ gw (n fr h) fun xs h1 => so (dats xs) fun ds => Q (.d (.list ds)) h1 := by
  unfold gDat
  rcases n fr h with _ | ⟨xs, h1⟩
  · simp
  · simp only [gw_some]
    cases dats xs <;> simp
theorem gw_new : gw (gNew n fr h) Q ↔ gw (n fr h) fun xs h1 => Q (.ref h1.length) (h1 ++ [.lst xs]) := by
  unfold gNew
  rcases n fr h with _ | ⟨xs, h1⟩ <;> simp
theorem gw_bin {g : D → D → Option D} : gw (gBin ma mb g fr h) Q ↔ gw (ma fr h) fun x h1 => gw (mb fr h1) fun y h2 => so (vw h2 x) fun x' => so (vw h2 y) fun y' => so (g x' y') fun z => Q (.d z) h2 := by
  unfold gBin gTwo
  rcases ma fr h with _ | ⟨x, h1⟩
  · simp
  · simp only [gw_some]
    rcases mb fr h1 with _ | ⟨y, h2⟩
    · simp
    · simp only [gw_some]
      cases vw h2 x with
      | none => simp
      | some x' =>
        simp only [so_some]
        cases vw h2 y with
        | none => simp
        | some y' =>
          simp only [so_some]
          cases g x' y' <;> simp
/-- a truth value -/
def isB : CV → Option Bool
  | .d (.bool b) => some b
  | _ => none
theorem gw_tV : gw (tV m fr h) QB ↔ gw (m fr h) fun x h1 => so (isB x) fun b => QB b h1 := by
  unfold tV
  rcases m fr h with _ | ⟨x, h1⟩
  · simp
  · simp only [gw_some]
    unfold isB
    split <;> split <;> simp_all
theorem gw_tBin {g : D → D → Option D} : gw (tBin ma mb g fr h) QB ↔ gw (gBin ma mb g fr h) fun x h1 => so (isB x) fun b => QB b h1 := by
  have e : tBin ma mb g = tV (gBin ma mb g) := rfl
  rw [e, gw_tV]
theorem gw_tru : gw (gTru m fr h) QB ↔ gw (m fr h) fun x h1 => so (vw h1 x) fun d => so (DL.truth d) fun b => QB b h1 := by
  unfold gTru
  rcases m fr h with _ | ⟨x, h1⟩
  · simp
  · simp only [gw_some]
    cases vw h1 x with
    | none => simp
    | some d =>
      simp only [so_some]
      cases DL.truth d <;> simp
theorem gw_not : gw (gNot t fr h) QB ↔ gw (t fr h) fun b h1 => QB (!b) h1 := by
  unfold gNot
  rcases t fr h with _ | ⟨x, h1⟩ <;> simp
theorem gw_tOr : gw (tOr ta tb fr h) QB ↔ gw (ta fr h) fun b h1 => if b = true then QB true h1 else gw (tb fr h1) QB := by
  unfold tOr
  rcases ta fr h with _ | ⟨b, h1⟩
  · simp
  · cases b <;> simp
theorem gw_if : gw (gIf t ma mb fr h) Q ↔ gw (t fr h) fun b h1 => if b = true then gw (ma fr h1) Q else gw (mb fr h1) Q := by
  unfold gIf
  rcases t fr h with _ | ⟨b, h1⟩
  · simp
  · cases b <;> simp
theorem gw_ix : gw (gIx ma mb fr h) Q ↔ gw (ma fr h) fun x h1 => gw (mb fr h1) fun y h2 => so (ixC h2 x y) fun z => Q z h2 := by
  unfold gIx
  rcases ma fr h with _ | ⟨x, h1⟩
  · simp
  · simp only [gw_some]
    rcases mb fr h1 with _ | ⟨y, h2⟩
    · simp
    · simp only [gw_some]
      cases ixC h2 x y <;> simp
theorem gw_call {g : List D → Option D} : gw (gCall n g fr h) Q ↔ gw (n fr h) fun xs h1 => so (vws h1 xs) fun ds => so (g ds) fun z => Q (.d z) h1 := by
  unfold gCall
  rcases n fr h with _ | ⟨xs, h1⟩
  · simp
  · simp only [gw_some]
    cases vws h1 xs with
    | none => simp
    | some ds =>
      simp only [so_some]
      cases g ds <;> simp
theorem gw_fn {G : GSem} : gw (gFn G n fr h) Q ↔ gw (n fr h) fun xs h1 => gw (G xs h1) Q := by
  unfold gFn
  rcases n fr h with _ | ⟨xs, h1⟩ <;> simp
theorem gs_nx : gs (sNx fr h) R ↔ R .nx fr h := by unfold sNx; simp
theorem gs_seq : gs (q6 s u fr h) R ↔ gs (s fr h) fun f fr1 h1 => match f with | .nx => gs (u fr1 h1) R | f => R f fr1 h1 := by
  unfold q6
  rcases s fr h with _ | ⟨f, fr1, h1⟩
  · simp
  · cases f <;> simp
theorem gs_rt : gs (sRt m fr h) R ↔ gw (m fr h) fun x h1 => R (.ret x) fr h1 := by
  unfold sRt
  rcases m fr h with _ | ⟨x, h1⟩ <;> simp
theorem gs_ex : gs (sEx m fr h) R ↔ gw (m fr h) fun _ h1 => R .nx fr h1 := by
  unfold sEx
  rcases m fr h with _ | ⟨x, h1⟩ <;> simp
theorem gs_set : gs (sSet i m fr h) R ↔ gw (m fr h) fun x h1 => R .nx (fr.set i (some x)) h1 := by
  unfold sSet
  rcases m fr h with _ | ⟨x, h1⟩ <;> simp
theorem gs_if : gs (sIf t s u fr h) R ↔ gw (t fr h) fun b h1 => if b = true then gs (s fr h1) R else gs (u fr h1) R := by
  unfold sIf
  rcases t fr h with _ | ⟨b, h1⟩
  · simp
  · cases b <;> simp
theorem gs_par {is : List Nat} : gs (sPar is n fr h) R ↔ gw (n fr h) fun xs h1 => xs.length = is.length ∧ R .nx (setsF is xs fr) h1 := by
  unfold sPar
  rcases n fr h with _ | ⟨xs, h1⟩
  · simp
  · simp only [gw_some]
    by_cases hl : xs.length = is.length
    · rw [if_pos hl]; simp [hl]
    · rw [if_neg hl]; simp [hl]
theorem gw_run {k : Nat} {xs : List CV} : gw (runH k s xs h) Q ↔ gs (s (padF k xs) h) fun f _ h1 => match f with | .ret x => Q x h1 | .nx => Q (.d .none) h1 | _ => False := by
  unfold runH
  rcases s (padF k xs) h with _ | ⟨f, fr1, h1⟩
  · simp
  · cases f <;> simp
end
end GW
namespace GW
open PySem PySem.Spec GH
open L2 (Key)
open DL (Tg)
section
variable {ma mb mc m mo me mk mv : ME} {ta tb t : MT} {n : ML} {s u : MS} {src : MI} {fr : Fr} {h : Hh} {Q : CV → Hh → Prop} {QL : List CV → Hh → Prop} {QB : Bool → Hh → Prop} {R : Fl → Fr → Hh → Prop} {i j cn : Nat}
/-- the list object to which a value leads -/
def lstAt (h : Hh) : CV → Option (Nat × List CV)
  | .ref n => match h[n]? with | some (.lst xs) => some (n, xs) | _ => none
  | _ => none
theorem gw_app : gw (gApp mo me fr h) Q ↔ gw (mo fr h) fun x h1 => so (lstAt h1 x) fun p => gw (me fr h1) fun y h2 => so (lstAt h2 (.ref p.1)) fun q => q.2.length < sizeLine ∧ Q (.d .none) (h2.set p.1 (.lst (q.2 ++ [y]))) := by
  unfold gApp
  rcases mo fr h with _ | ⟨x, h1⟩
  · simp
  · simp only [gw_some]
    cases x with
    | ref i =>
      simp only [lstOf, lstAt]
      rcases h1[i]? with _ | o
      · simp
      · cases o with
        | lst xs0 =>
          simp only [so_some]
          rcases me fr h1 with _ | ⟨y, h2⟩
          · simp
          · simp only [gw_some]
            rcases h2[i]? with _ | o2
            · simp
            · cases o2 with
              | lst xs =>
                simp only [so_some]
                by_cases hl : xs.length < sizeLine
                · rw [if_pos hl]; simp [hl]
                · rw [if_neg hl]; simp [hl]
              | _ => simp
        | _ => simp
    | _ => simp [lstAt]
theorem forL_inv {J : Ir} {tg : Tg} {k : Nat} {I : Nat → Fr → Hh → Prop} (start : I 0 fr h) (step : ∀ i fr h, i < k → I i fr h → ∃ x, J i h = some (some x) ∧ so (bindT tg x fr) fun fr1 => gs (s fr1 h) fun f fr2 h2 => match f with | .nx => I (i + 1) fr2 h2 | .ct => I (i + 1) fr2 h2 | .bk => R .nx fr2 h2 | .ret x => R (.ret x) fr2 h2)
    (fin : ∀ fr h, I k fr h → J k h = some none ∧ R .nx fr h) : gs (forL J tg s k 0 fr h) R := by
  have go : ∀ (b a : Nat) (fr : Fr) (h : Hh), a + b = k → I a fr h → gs (forL J tg s b a fr h) R := by
    intro b
    induction b with
    | zero =>
      intro a fr h e hi
      have e' : a = k := by omega
      subst e'
      obtain ⟨e1, r⟩ := fin fr h hi
      unfold forL
      rw [e1]
      simpa using r
    | succ b ih =>
      intro a fr h e hi
      obtain ⟨x, e1, st⟩ := step a fr h (by omega) hi
      obtain ⟨fr1, e2, f, fr2, h2, e3, q⟩ := st
      unfold forL
      rw [e1]
      simp only
      rw [e2]
      simp only
      rw [e3]
      cases f with
      | nx => exact ih _ _ _ (by omega) q
      | ct => exact ih _ _ _ (by omega) q
      | bk => exact gs_some.mpr q
      | ret x => exact gs_some.mpr q
  exact go k 0 fr h (by omega) start
theorem lcL_inv {J : Ir} {tg : Tg} {k : Nat} {I : Nat → List CV → Hh → Prop} (start : I 0 [] h) (step : ∀ i acc h, i < k → I i acc h → ∃ x, J i h = some (some x) ∧ so (bindT tg x fr) fun fr1 => gw (t fr1 h) fun b h2 => if b = true then gw (m fr1 h2) fun y h3 => I (i + 1) (acc ++ [y]) h3 else I (i + 1) acc h2)
    (fin : ∀ acc h, I k acc h → J k h = some none ∧ QL acc h) : gw (lcL J tg t m fr k 0 h) QL := by
  have go : ∀ (b a : Nat) (acc : List CV) (h : Hh), a + b = k → I a acc h → gw (lcL J tg t m fr b a h) fun ys hf => QL (acc ++ ys) hf := by
    intro b
    induction b with
    | zero =>
      intro a acc h e hi
      have e' : a = k := by omega
      subst e'
      obtain ⟨e1, r⟩ := fin acc h hi
      unfold lcL
      rw [e1]
      simpa using r
    | succ b ih =>
      intro a acc h e hi
      obtain ⟨x, e1, st⟩ := step a acc h (by omega) hi
      obtain ⟨fr1, e2, c, h2, e3, q⟩ := st
      unfold lcL
      rw [e1]
      simp only
      rw [e2]
      simp only
      rw [e3]
      cases c with
      | true =>
        rw [if_pos rfl] at q
        obtain ⟨y, h3, e4, q⟩ := q
        simp only
        rw [e4]
        simp only
        obtain ⟨ys, hf, e5, q⟩ := ih _ _ _ (by omega) q
        rw [e5]
        rw [List.append_assoc] at q
        exact gw_some.mpr q
      | false =>
        rw [if_neg (by decide)] at q
        exact ih _ _ _ (by omega) q
  have := go k 0 [] h (by omega) start
  simpa using this
def gi (m : Option (Ir × Nat × Hh)) (P : Ir → Nat → Hh → Prop) : Prop := ∃ J k h, m = some (J, k, h) ∧ P J k h
@[simp] theorem gi_none {P : Ir → Nat → Hh → Prop} : gi none P ↔ False := ⟨fun ⟨_, _, _, e, _⟩ => (by cases e), False.elim⟩
@[simp] theorem gi_some {J : Ir} {k : Nat} {P : Ir → Nat → Hh → Prop} : gi (some (J, k, h)) P ↔ P J k h := ⟨fun ⟨_, _, _, e, q⟩ => (by cases e; exact q), fun q => ⟨_, _, _, rfl, q⟩⟩
theorem gs_for {tg : Tg} : gs (sFor src tg s fr h) R ↔ gi (src fr h) fun J k h1 => gs (forL J tg s k 0 fr h1) R := by
  unfold sFor
  rcases src fr h with _ | ⟨J, k, h1⟩ <;> simp
theorem gw_lc {tg : Tg} : gw (nLc src tg t m fr h) QL ↔ gi (src fr h) fun J k h1 => k ≤ sizeLine ∧ gw (lcL J tg t m (wipeF fr tg.ix) k 0 h1) QL := by
  unfold nLc
  rcases src fr h with _ | ⟨J, k, h1⟩
  · simp
  · simp only [gi_some]
    by_cases hl : k ≤ sizeLine
    · rw [if_pos hl]; simp [hl]
    · rw [if_neg hl]; simp [hl]
/-- what a value gives to a loop -/
def iterV (h : Hh) : CV → Option (Ir × Nat)
  | .ref n => match lstOf h (.ref n) with | some xs => some (live n, xs.length) | none => none
  | .d (.list ds) => some (fix (ds.map CV.d), ds.length)
  | .d (.tuple ds) => some (fix (ds.map CV.d), ds.length)
  | .d (.str z) => some (fix ((DL.signs z).map CV.d), (DL.signs z).length)
  | _ => none
theorem gi_v {P : Ir → Nat → Hh → Prop} : gi (iV m fr h) P ↔ gw (m fr h) fun x h1 => so (iterV h1 x) fun p => P p.1 p.2 h1 := by
  unfold iV
  rcases m fr h with _ | ⟨x, h1⟩
  · simp
  · simp only [gw_some]
    unfold iterV
    cases x with
    | ref i =>
      simp only
      cases lstOf h1 (.ref i) <;> simp
    | d d => cases d <;> simp
    | _ => simp
end
end GW
namespace GW
open PySem PySem.Spec GH
open DL (FSem FNew Sl wo)
section
variable {mo mk mv m : ME} {n : ML} {fr : Fr} {h : Hh} {Q : CV → Hh → Prop} {QL : List CV → Hh → Prop} {R : Fl → Fr → Hh → Prop}
theorem gw_fo {F : FSem} : gw (gFo F n fr h) Q ↔ gw (n fr h) fun xs h1 => so (slCs h1 xs) fun as => (refsOf xs).Nodup ∧ wo (F as) fun y => Q (.d y.1) (backC xs y.2 h1) := by
  unfold gFo
  rcases n fr h with _ | ⟨xs, h1⟩
  · simp
  · simp only [gw_some]
    unfold callD
    cases slCs h1 xs with
    | none => simp
    | some as =>
      simp only [so_some]
      by_cases nd : (refsOf xs).Nodup
      · rw [if_pos nd]
        cases F as with
        | none => simp [DL.y7]
        | some y => simp [DL.y6, nd]
      · rw [if_neg nd]
        simp [nd]
theorem gw_nfo {F : FNew} : gw (nFo F n fr h) QL ↔ gw (n fr h) fun xs h1 => so (slCs h1 xs) fun as => (refsOf xs).Nodup ∧ wo (F as) fun y => QL (y.1.map CV.d) (backC xs y.2 h1) := by
  unfold nFo
  rcases n fr h with _ | ⟨xs, h1⟩
  · simp
  · simp only [gw_some]
    unfold callN
    cases slCs h1 xs with
    | none => simp
    | some as =>
      simp only [so_some]
      by_cases nd : (refsOf xs).Nodup
      · rw [if_pos nd]
        cases F as with
        | none => simp [DL.y7]
        | some y => simp [DL.y6, nd]
      · rw [if_neg nd]
        simp [nd]
theorem gw_fv {F : FSem} : gw (gFv F n fr h) Q ↔ gw (n fr h) fun xs h1 => so (vws2 h1 xs) fun ds => wo (F (ds.map Sl.d)) fun y => atomD y.1 = true ∧ Q (.d y.1) h1 := by
  unfold gFv
  rcases n fr h with _ | ⟨xs, h1⟩
  · simp
  · simp only [gw_some]
    cases vws2 h1 xs with
    | none => simp
    | some ds =>
      simp only [so_some]
      cases F (ds.map Sl.d) with
      | none => simp [DL.y7]
      | some y =>
        simp only [DL.y6]
        by_cases a : atomD y.1 = true <;> simp [a]
def scrOf : CV → Option (List Int)
  | .scr ns => some ns
  | _ => none
theorem gw_lenS : gw (gLenS m fr h) Q ↔ gw (m fr h) fun x h1 => so (scrOf x) fun ns => Q (.d (.int ns.length)) h1 := by
  unfold gLenS
  rcases m fr h with _ | ⟨x, h1⟩
  · simp
  · simp only [gw_some]
    cases x <;> simp [scrOf]
def intOf : CV → Option Int
  | .d (.int i) => some i
  | _ => none
theorem gs_lput : gs (sLput mo mk mv fr h) R ↔ gw (mv fr h) fun v h1 => gw (mo fr h1) fun o h2 => gw (mk fr h2) fun y h3 => so (intOf y) fun i => so (lstAt h3 o) fun p => so (L2.ixN p.2.length i) fun j => R .nx fr (h3.set p.1 (.lst (p.2.set j v))) := by
  unfold sLput
  rcases mv fr h with _ | ⟨v, h1⟩
  · simp
  · simp only [gw_some]
    rcases mo fr h1 with _ | ⟨o, h2⟩
    · simp
    · simp only [gw_some]
      cases o with
      | ref k =>
        simp only
        rcases mk fr h2 with _ | ⟨y, h3⟩
        · simp
        · simp only [gw_some]
          cases y with
          | d x =>
            cases x with
            | int i =>
              simp only [intOf, lstAt]
              cases h3[k]? with
              | none => simp
              | some ob =>
                cases ob with
                | lst xs =>
                  simp only [so_some]
                  cases L2.ixN xs.length i <;> simp
                | _ => simp
            | _ => simp [intOf]
          | _ => simp [intOf]
      | _ => rcases mk fr h2 with _ | ⟨y, h3⟩ <;> simp [lstAt, so]
end
end GW
namespace GW
open PySem PySem.Spec GH
open DL (Tg)
section
variable {ma mb mc m mo me mk mv : ME} {ta tb t : MT} {n : ML} {s u : MS} {src : MI} {fr : Fr} {h : Hh} {Q : CV → Hh → Prop} {QL : List CV → Hh → Prop} {R : Fl → Fr → Hh → Prop}
theorem for_fix {tg : Tg} {zs : List CV} {k : Nat} (hk : k = zs.length) (I : List CV → Fr → Hh → Prop) (start : I zs fr h) (step : ∀ z zs' fr h, I (z :: zs') fr h → so (bindT tg z fr) fun fr1 => gs (s fr1 h) fun f fr2 h2 => match f with | .nx => I zs' fr2 h2 | .ct => I zs' fr2 h2 | .bk => R .nx fr2 h2 | .ret x => R (.ret x) fr2 h2)
    (fin : ∀ fr h, I [] fr h → R .nx fr h) : gs (forL (fix zs) tg s k 0 fr h) R := by
  subst hk
  refine forL_inv (I := fun i fr h => I (zs.drop i) fr h) (by simpa using start) (fun i fr h hi hI => ?_) (fun fr h hI => ?_)
  · have e : zs[i]? = some zs[i] := List.getElem?_eq_getElem hi
    rw [List.drop_eq_getElem_cons hi] at hI
    exact ⟨zs[i], by unfold fix; rw [e], step _ _ _ _ hI⟩
  · rw [List.drop_length] at hI
    exact ⟨by unfold fix; rw [List.getElem?_eq_none (Nat.le_refl _)], fin _ _ hI⟩
theorem lc_fx {tg : Tg} {zs : List CV} {k : Nat} (hk : k = zs.length) (I : List CV → List CV → Hh → Prop) (start : I zs [] h) (step : ∀ z zs' acc h, I (z :: zs') acc h → so (bindT tg z fr) fun fr1 => gw (t fr1 h) fun b h2 => if b = true then gw (m fr1 h2) fun y h3 => I zs' (acc ++ [y]) h3 else I zs' acc h2)
    (fin : ∀ acc h, I [] acc h → QL acc h) : gw (lcL (fix zs) tg t m fr k 0 h) QL := by
  subst hk
  refine lcL_inv (I := fun i acc h => I (zs.drop i) acc h) (by simpa using start) (fun i acc h hi hI => ?_) (fun acc h hI => ?_)
  · have e : zs[i]? = some zs[i] := List.getElem?_eq_getElem hi
    rw [List.drop_eq_getElem_cons hi] at hI
    exact ⟨zs[i], by unfold fix; rw [e], step _ _ _ _ hI⟩
  · rw [List.drop_length] at hI
    exact ⟨by unfold fix; rw [List.getElem?_eq_none (Nat.le_refl _)], fin _ _ hI⟩
/-- over an object; each turn leaves all as it is -/
theorem lc_lv {β : Type} {tg : Tg} {js : List β} {f g : β → CV} {k i : Nat} (hn : h[i]? = some (.lst (js.map f))) (hk : k = js.length) (step : ∀ j ∈ js, so (bindT tg (f j) fr) fun fr1 => gw (t fr1 h) fun b h2 => b = true ∧ gw (m fr1 h2) fun y h3 => h3 = h ∧ y = g j) (hq : QL (js.map g) h) : gw (lcL (live i) tg t m fr k 0 h) QL := by
  subst hk
  refine lcL_inv (I := fun i acc h1 => h1 = h ∧ acc = (js.take i).map g) ⟨rfl, by simp⟩ (fun i acc h1 hi => ?_) fun acc h1 => ?_
  · rintro ⟨rfl, rfl⟩
    have e : js[i]? = some js[i] := List.getElem?_eq_getElem hi
    refine ⟨f js[i], by unfold live; rw [hn]; simp only [List.getElem?_map, e]; rfl, ?_⟩
    obtain ⟨fr1, e1, b, h2, e2, rfl, y, h3, e3, rfl, rfl⟩ := step js[i] (List.getElem_mem hi)
    refine ⟨fr1, e1, true, h2, e2, ?_⟩
    have et : js.take (i + 1) = js.take i ++ [js[i]] := by rw [List.take_add_one, e]; rfl
    dsimp only
    rw [if_pos rfl]
    exact ⟨_, _, e3, rfl, by rw [et, List.map_append]; rfl⟩
  · rintro ⟨rfl, rfl⟩
    exact ⟨by unfold live; rw [hn]; simp only [List.getElem?_eq_none (show (js.map f).length ≤ js.length by simp)], by rw [List.take_length]; exact hq⟩
theorem gw_neg1 : gw (gL (DL.mNeg (DL.j8 (.int 1))) fr h) Q ↔ Q (.d (.int (-1))) h := by
  unfold gL DL.mNeg DL.j8
  simp
/-- one statement, then the rest, by what stands between -/
theorem seqK (K : Fr → Hh → Prop) (a : gs (s fr h) fun f fr1 h1 => match f with | .nx => K fr1 h1 | f => R f fr1 h1) (k : ∀ fr1 h1, K fr1 h1 → gs (u fr1 h1) R) : gs (q6 s u fr h) R := by
  rw [gs_seq]
  refine a.imp fun f fr1 h1 z => ?_
  cases f with
  | nx => exact k _ _ z
  | _ => exact z
theorem vwd {x : D} : vw h (.d x) = some x := rfl
theorem ixd {x y : D} : ixC h (.d x) (.d y) = (DL.fIx x y).map CV.d := by
  unfold ixC
  cases e : DL.fIx x y <;> simp [e]
end
end GW
namespace HL
open PySem PySem.Spec GH GW
open DL (FSem FNew fEq fTuple wo fMul2 fAdd j8 mNeg fit tupD)
abbrev chO (c : List Mb) : CO := .lst (c.map fun p => CV.d (mbD p))
def rfs (n k : Nat) : List CV := (List.range k).map fun j => CV.ref (n + 1 + j)
def stH (h : Hh) (cs : List (List Mb)) : Hh := h ++ (.lst (rfs h.length cs.length) :: cs.map chO)
section
variable {h : Hh} {cs : List (List Mb)} {c c' : List Mb} {j : Nat}
theorem stH_len : (stH h cs).length = h.length + 1 + cs.length := by simp [stH]; omega
theorem stH_0 : (stH h cs)[h.length]? = some (.lst (rfs h.length cs.length)) := by
  unfold stH
  rw [List.getElem?_append_right (Nat.le_refl _)]
  simp
theorem stH_j (e : cs[j]? = some c) : (stH h cs)[h.length + 1 + j]? = some (chO c) := by
  unfold stH
  rw [List.getElem?_append_right (by omega)]
  have : h.length + 1 + j - h.length = j + 1 := by omega
  rw [this, List.getElem?_cons_succ, List.getElem?_map, e]
  all_goals rfl
theorem stH_last : (stH h (cs ++ [c]))[h.length + 1 + cs.length]? = some (chO c) := stH_j (by simp)
theorem rfs_succ {n k : Nat} : rfs n (k + 1) = rfs n k ++ [.ref (n + 1 + k)] := by
  unfold rfs
  rw [List.range_succ, List.map_append]
  all_goals rfl
theorem rfs_len {n k : Nat} : (rfs n k).length = k := by simp [rfs]
theorem ix_last {α : Type} {xs : List α} {x : α} : L2.atI (xs ++ [x]) (-1) = some x := by
  unfold L2.atI
  rw [DL.ixN_last (by simp)]
  simp
theorem ix_ref : ixC (stH h (cs ++ [c])) (.ref h.length) (.d (.int (-1))) = some (.ref (h.length + 1 + cs.length)) := by
  unfold ixC
  simp only [stH_0, List.length_append, List.length_singleton, rfs_succ]
  exact ix_last
theorem ix_in {p : Mb} : ixC (stH h (cs ++ [c ++ [p]])) (.ref (h.length + 1 + cs.length)) (.d (.int (-1))) = some (.d (mbD p)) := by
  unfold ixC
  simp only [stH_last, List.map_append, List.map_cons, List.map_nil]
  exact ix_last
theorem stH_set : (stH h (cs ++ [c])).set (h.length + 1 + cs.length) (chO c') = stH h (cs ++ [c']) := by
  unfold stH
  rw [List.set_append_right _ _ (by omega)]
  have : h.length + 1 + cs.length - h.length = cs.length + 1 := by omega
  rw [this, List.set_cons_succ, List.map_append, List.set_append_right _ _ (by simp)]
  simp
theorem stH_new : (stH h cs ++ [chO c]).set h.length (.lst (rfs h.length cs.length ++ [.ref (h.length + 1 + cs.length)])) = stH h (cs ++ [c]) := by
  unfold stH
  rw [List.append_assoc, List.set_append_right _ _ (by omega)]
  simp [rfs_succ]
theorem at_c : lstAt (stH h (cs ++ [c])) (.ref (h.length + 1 + cs.length)) = some (h.length + 1 + cs.length, c.map fun p => CV.d (mbD p)) := by
  unfold lstAt
  simp only [stH_last]
theorem at_0 : lstAt (stH h cs) (.ref h.length) = some (h.length, rfs h.length cs.length) := by
  unfold lstAt
  simp only [stH_0]
theorem at_0n {x : CO} : lstAt (stH h cs ++ [x]) (.ref h.length) = some (h.length, rfs h.length cs.length) := by
  unfold lstAt
  simp only [List.getElem?_append_left (show h.length < (stH h cs).length by rw [stH_len]; omega), stH_0]
end
/-- what is known of chains found so far -/
structure SI (n : Nat) (pt : Bool) (s : List (List Mb) × Bool) : Prop where
  a : pt = false → s.1 ≠ []
  b : s.2 = true → s.1 ≠ []
  c : ∀ c ∈ s.1, c ≠ [] ∧ c.length ≤ n
  d : s.1.length ≤ n
theorem last_of {α : Type} {xs : List α} (h : xs ≠ []) : ∃ ys y, xs = ys ++ [y] := ⟨xs.dropLast, xs.getLast h, (List.dropLast_concat_getLast h).symm⟩
theorem si_cases {n : Nat} {pt : Bool} {s : List (List Mb) × Bool} {q : Q0} (si : SI n pt s) (h : (timerB q.w && pt) = false) :
    (timerB q.w = true ∧ ∃ cs c p, s = (cs ++ [c ++ [p]], s.2) ∧ cStep s q = (cs ++ [c ++ [(p.1, some q.t)]], s.2)) ∨
    (timerB q.w = false ∧ ∃ cs c, s = (cs ++ [c], true) ∧ cStep s q = (cs ++ [c ++ [(q.t, none)]], linkB q.fs)) ∨
    (timerB q.w = false ∧ s = (s.1, false) ∧ cStep s q = (s.1 ++ [[(q.t, none)]], linkB q.fs)) := by
  obtain ⟨s1, s2⟩ := s
  cases ht : timerB q.w with
  | true =>
    rw [ht] at h
    obtain ⟨cs, c, e⟩ := last_of (si.a (by simpa using h))
    simp only at e
    subst e
    obtain ⟨c', p, rfl⟩ := last_of (si.c c (by simp)).1
    exact .inl ⟨rfl, cs, c', p, rfl, by unfold cStep; rw [ht]; simp⟩
  | false =>
    cases s2 with
    | true =>
      obtain ⟨cs, c, e⟩ := last_of (si.b rfl)
      simp only at e
      subst e
      exact .inr (.inl ⟨rfl, cs, c, rfl, by unfold cStep; rw [ht]; simp⟩)
    | false => exact .inr (.inr ⟨rfl, rfl, by unfold cStep; rw [ht]; simp⟩)
theorem si_step {n : Nat} {pt : Bool} {s : List (List Mb) × Bool} {q : Q0} (si : SI n pt s) (h : (timerB q.w && pt) = false) : SI (n + 1) (timerB q.w) (cStep s q) := by
  have lc : ∀ {cs : List (List Mb)} {c : List Mb}, s.1 = cs ++ [c] → ∀ c', c' ≠ [] → c'.length ≤ c.length + 1 → ∀ b, SI (n + 1) (timerB q.w) (cs ++ [c'], b) := fun {cs c} e c' h1 h2 b => by
    have hl := si.d
    rw [e] at hl
    have hc := si.c
    rw [e] at hc
    refine ⟨fun _ => by simp, fun _ => by simp, fun x hx => ?_, by simp at hl ⊢; omega⟩
    rcases List.mem_append.mp hx with hx | hx
    · have := hc x (List.mem_append_left _ hx)
      exact ⟨this.1, by omega⟩
    · cases List.mem_singleton.mp hx
      have := (hc c (by simp)).2
      exact ⟨h1, by omega⟩
  rcases si_cases si h with ⟨ht, cs, c, p, e1, e2⟩ | ⟨ht, cs, c, e1, e2⟩ | ⟨ht, e1, e2⟩
  · rw [e2]
    exact lc (congrArg Prod.fst e1) _ (by simp) (by simp) _
  · rw [e2]
    exact lc (congrArg Prod.fst e1) _ (by simp) (by simp) _
  · rw [e2]
    have hl := si.d
    refine ⟨fun _ => by simp, fun _ => by simp, fun x hx => ?_, by simp; omega⟩
    rcases List.mem_append.mp hx with hx | hx
    · have := si.c x hx
      exact ⟨this.1, by omega⟩
    · cases List.mem_singleton.mp hx
      exact ⟨by simp, by simp⟩
def Ext (h h' : Hh) : Prop := ∃ g, h' = h ++ g
theorem Ext.at {h h' : Hh} {n : Nat} {o : CO} (e : Ext h h') (a : h[n]? = some o) : h'[n]? = some o := by
  obtain ⟨g, rfl⟩ := e
  rw [List.getElem?_append_left (List.getElem?_eq_some_iff.mp a).1]
  exact a
theorem Ext.len {h h' : Hh} (e : Ext h h') : h.length ≤ h'.length := by
  obtain ⟨g, rfl⟩ := e
  simp
theorem Ext.trans {h h' h'' : Hh} (a : Ext h h') (b : Ext h' h'') : Ext h h'' := by
  obtain ⟨g, rfl⟩ := a
  obtain ⟨g', rfl⟩ := b
  exact ⟨g ++ g', by simp⟩
def ChainsOk (n : Nat) (G : GSem) : Prop := ∀ (y : D) (qs : List Q0) (h : Hh) (Q : CV → Hh → Prop), fit 1000 n y = true → tupD y = lotD qs → qs.length ≤ 1000 → (∀ q ∈ qs, q.fs.length ≤ 1000) → tOk true qs = true →
  (∀ h' r, Ext h h' → h.length ≤ r → h'[r]? = some (.lst ((chainsF qs).map fun c => CV.d (chD c))) → Q (.ref r) h') → gw (G [.d y] h) Q
theorem fEqS (a b : Str) : fEq (.str a) (.str b) = some (.bool (a == b)) := by rw [DL.fEq_str]
theorem chains_ok {n : Nat} {T L : FSem} (hT : TupledOk n T) (hL : LinkOk L) : ChainsOk n (r_chains T L) := by
  intro y qs h Q hf hy hl hfs hk hq
  have hT' := hT y hf
  rw [hy] at hT'
  rw [gw_run]
  unfold b_chains
  have hp : padF 7 [CV.d y] = [some (.d y), none, none, none, none, none, none] := rfl
  rw [hp]
  refine seqK (fun fr1 h1 => fr1 = [some (.d y), some (.ref h.length), some (.d (.bool false)), none, none, none, none] ∧ h1 = stH h []) ?_ ?_
  · simp [gs_par, gw_cons, gw_new, gw_lst, gw_nil, gw_cst, setsF, stH, rfs]
  · rintro _ _ ⟨rfl, rfl⟩
    refine seqK (fun fr1 h1 => ∃ a2 a3 a4 a5, fr1 = [some (.d y), some (.ref h.length), a2, a3, a4, a5, none] ∧ h1 = stH h (chainsF qs) ∧ (chainsF qs).length ≤ 1000 ∧ ∀ c ∈ chainsF qs, c.length ≤ 1000) ?_ ?_
    · rw [gs_for, gi_v, gw_fo, gw_cons, gw_var]
      simp only [List.getElem?_cons_zero, so_some, gw_nil, slCs, slC, refsOf, hT', DL.y6, lotD, iterV, backC, back1, List.nodup_nil, true_and]
      refine for_fix (by simp) (fun zs fr h1 => ∃ (pre suf : List Q0) (pt : Bool) (a3 a4 a5 : Option CV), qs = pre ++ suf ∧ zs = (suf.map Q0.r).map CV.d ∧ fr = [some (.d y), some (.ref h.length), some (.d (.bool (pre.foldl cStep ([], false)).2)), a3, a4, a5, none] ∧ h1 = stH h (pre.foldl cStep ([], false)).1 ∧ tOk pt suf = true ∧ SI pre.length pt (pre.foldl cStep ([], false))) ⟨[], qs, true, none, none, none, rfl, rfl, rfl, rfl, hk, ⟨by simp, by simp, by simp, by simp⟩⟩ ?_ ?_
      · rintro z zs' _ _ ⟨pre, suf, pt, a3, a4, a5, e1, e2, rfl, rfl, ek, si⟩
        cases suf with
        | nil => simp at e2
        | cons q suf =>
          simp only [List.map_cons, List.cons.injEq] at e2
          obtain ⟨rfl, rfl⟩ := e2
          unfold tOk at ek
          rw [Bool.and_eq_true] at ek
          have ht := ek.1
          rw [Bool.not_eq_true'] at ht
          have sn := si_step si ht
          have sc := si_cases si ht
          have next : ∀ a3 a4 a5 : Option CV, ∃ (pre' suf' : List Q0) (pt : Bool) (b3 b4 b5 : Option CV), qs = pre' ++ suf' ∧ (suf.map Q0.r).map CV.d = (suf'.map Q0.r).map CV.d ∧ [some (CV.d y), some (.ref h.length), some (.d (.bool (cStep (pre.foldl cStep ([], false)) q).2)), a3, a4, a5, none] = [some (.d y), some (.ref h.length), some (.d (.bool (pre'.foldl cStep ([], false)).2)), b3, b4, b5, none] ∧ stH h (cStep (pre.foldl cStep ([], false)) q).1 = stH h (pre'.foldl cStep ([], false)).1 ∧ tOk pt suf' = true ∧ SI pre'.length pt (pre'.foldl cStep ([], false)) := fun a3 a4 a5 =>
            ⟨pre ++ [q], suf, timerB q.w, a3, a4, a5, by rw [e1]; simp, rfl, by rw [List.foldl_append]; rfl, by rw [List.foldl_append]; rfl, ek.2, by rw [List.foldl_append, List.length_append]; exact sn⟩
          have hlk := hL q.t (.tuple (.str q.w :: q.rest)) q.fs (hfs q (by rw [e1]; simp))
          have pl : pre.length ≤ 1000 := by rw [e1] at hl; simp at hl; omega
          have sd := si.d
          have sC := si.c
          generalize pre.foldl cStep ([], false) = st at *
          have at0' : DL.fIx (.tuple (.str q.w :: q.rest)) (.int 0) = some (.str q.w) := at0
          have tw : (q.w == Str.ofString "linktimeout") = timerB q.w := rfl
          have bd : ∀ (a b c d e f g : Option CV), bindT (.tup (.cons (.nm 3) (.cons (.nm 4) (.cons (.nm 5) .nil)))) (.d q.r) [a, b, c, d, e, f, g] = some [a, b, c, some (.d (.str q.t)), some (.d (.tuple (.str q.w :: q.rest))), some (.d (.tuple (q.fs.map PyData.str))), g] := fun a b c d e f g => by
            simp [mkR, bindT, bindTs, DL.Tgs.len]
          rw [bd, so_some]
          rcases sc with ⟨ht, cs, c, p, e3, e4⟩ | ⟨ht, cs, c, e3, e4⟩ | ⟨ht, e3, e4⟩
          · rw [e4] at next
            rw [e3]
            have nx := next (some (.d (.str q.t))) (some (.d (.tuple (.str q.w :: q.rest)))) (some (.d (.tuple (q.fs.map PyData.str))))
            have lp : (c ++ [p]).length = c.length + 1 := by simp
            have es : ((c ++ [p]).map fun p => CV.d (mbD p)).set c.length (.d (mbD (p.1, some q.t))) = (c ++ [(p.1, some q.t)]).map fun p => CV.d (mbD p) := by
              rw [List.map_append, List.set_append_right _ _ (by simp)]
              simp
            have ixl : L2.ixN (c.length + 1) (-1) = some c.length := DL.ixN_last (Nat.succ_pos c.length)
            have i0 : DL.fIx (mbD p) (.int 0) = some (.str p.1) := at0
            have tc : tupC [CV.d (.str p.1), .d (.str q.t)] = .d (mbD (p.1, some q.t)) := rfl
            rw [gs_seq, gs_if, gw_tBin, gw_bin, gw_ix]
            simp only [gw_var, gw_cst, List.getElem?_cons_succ, List.getElem?_cons_zero, so_some, ixd, at0', Option.map_some, vwd, fEqS, isB, tw, ht, if_true, gs_seq, gs_lput, gw_tup, gw_cons, gw_nil, gw_ix, gw_neg1, ix_ref, ix_in, i0, tc, List.length_cons, List.length_nil, intOf, at_c, gs_nx, List.length_map, lp, ixl, es, stH_set]
            exact ⟨by decide, nx⟩
          · rw [e4] at next
            rw [e3] at sd sC ⊢
            have cl : c.length < sizeLine := by
              have := (sC c (by simp)).2
              exact Nat.lt_of_le_of_lt (Nat.le_trans this pl) (by decide)
            have nx := next (some (.d (.str q.t))) (some (.d (.tuple (.str q.w :: q.rest)))) (some (.d (.tuple (q.fs.map PyData.str))))
            have es : ((c.map fun p => CV.d (mbD p)) ++ [.d (mbD (q.t, none))]) = (c ++ [(q.t, none)]).map fun p => CV.d (mbD p) := by simp
            have tc : tupC [CV.d (.str q.t), .d .none] = .d (mbD (q.t, none)) := rfl
            have tc3 : tupC [CV.d (.str q.t), .d (.tuple (.str q.w :: q.rest)), .d (.tuple (q.fs.map PyData.str))] = .d q.r := rfl
            rw [gs_seq, gs_if, gw_tBin, gw_bin, gw_ix]
            simp only [gw_var, gw_cst, List.getElem?_cons_succ, List.getElem?_cons_zero, so_some, ixd, at0', Option.map_some, vwd, fEqS, isB, tw, ht, Bool.false_eq_true, if_false, gs_seq, gs_if, gw_tru, DL.truth, if_true, gs_ex, gw_app, gw_ix, gw_neg1, ix_ref, at_c, gw_tup, gw_cons, gw_nil, tc, List.length_map, cl, true_and, es, stH_set, gs_nx, gs_set, gw_fo, tc3, slCs, slC, refsOf, List.nodup_nil, hlk, DL.y6, backC, back1, List.length_cons, List.length_nil]
            exact ⟨by decide, by decide, by simpa using nx⟩
          · rw [e4] at next
            rw [e3]
            have nx := next (some (.d (.str q.t))) (some (.d (.tuple (.str q.w :: q.rest)))) (some (.d (.tuple (q.fs.map PyData.str))))
            have cl : st.1.length < sizeLine := Nat.lt_of_le_of_lt (Nat.le_trans sd pl) (by decide)
            have tc : tupC [CV.d (.str q.t), .d .none] = .d (mbD (q.t, none)) := rfl
            have tc3 : tupC [CV.d (.str q.t), .d (.tuple (.str q.w :: q.rest)), .d (.tuple (q.fs.map PyData.str))] = .d q.r := rfl
            have en : (stH h st.1 ++ [CO.lst [.d (mbD (q.t, none))]]).set h.length (.lst (rfs h.length st.1.length ++ [.ref (h.length + 1 + st.1.length)])) = stH h (st.1 ++ [[(q.t, none)]]) := stH_new (c := [(q.t, none)])
            rw [gs_seq, gs_if, gw_tBin, gw_bin, gw_ix]
            simp only [gw_var, gw_cst, List.getElem?_cons_succ, List.getElem?_cons_zero, so_some, ixd, at0', Option.map_some, vwd, fEqS, isB, tw, ht, Bool.false_eq_true, if_false, gs_seq, gs_if, gw_tru, DL.truth, if_true, gs_ex, gw_app, gw_new, gw_lst, at_0, at_0n, stH_len, rfs_len, gw_tup, gw_cons, gw_nil, tc, cl, true_and, en, gs_nx, gs_set, gw_fo, tc3, slCs, slC, refsOf, List.nodup_nil, hlk, DL.y6, backC, back1, List.length_cons, List.length_nil]
            exact ⟨by decide, by decide, by decide, by simpa using nx⟩
      · rintro _ _ ⟨pre, suf, pt, a3, a4, a5, e1, e2, rfl, rfl, ek, si⟩
        have : suf = [] := by cases suf with | nil => rfl | cons a b => simp at e2
        subst this
        rw [List.append_nil] at e1
        subst e1
        exact ⟨_, a3, a4, a5, rfl, rfl, by have := si.d; unfold chainsF; omega, fun c hc => by have := (si.c c hc).2; omega⟩
    · rintro _ _ ⟨a2, a3, a4, a5, rfl, rfl, h1, h2⟩
      have ln : ∀ k : Nat, k ≤ 1000 → k ≤ sizeLine := fun k hk => Nat.le_trans hk (by decide)
      rw [gs_seq, gs_rt, gw_new, gw_lc, gi_v, gw_var]
      have iv : iterV (stH h (chainsF qs)) (.ref h.length) = some (live h.length, (chainsF qs).length) := by
        unfold iterV lstOf
        simp only [stH_0, rfs_len]
      simp only [List.getElem?_cons_succ, List.getElem?_cons_zero, so_some, iv]
      refine ⟨ln _ h1, lc_lv (js := List.range (chainsF qs).length) (f := fun j => CV.ref (h.length + 1 + j)) (g := fun j => match (chainsF qs)[j]? with | some c => CV.d (chD c) | none => .d .none) stH_0 (by simp) (fun j hj => ?_) ?_⟩
      · have hj := List.mem_range.mp hj
        have ej : (chainsF qs)[j]? = some (chainsF qs)[j] := List.getElem?_eq_getElem hj
        have vj : vws (stH h (chainsF qs)) [.ref (h.length + 1 + j)] = some [.list ((chainsF qs)[j].map mbD)] := by
          have dm : dats ((chainsF qs)[j].map fun p => CV.d (mbD p)) = some ((chainsF qs)[j].map mbD) := by
            have := dats_map ((chainsF qs)[j].map mbD)
            rwa [List.map_map] at this
          unfold vws vws vw
          simp only [stH_j ej, dm]
        simp only [bindT, DL.Tg.ix, wipeF, List.length_cons, List.length_nil, ej]
        simp [tYes, gw_call, gw_cons, gw_var, gw_nil, vj, fTuple, chD]
      · have em : ((List.range (chainsF qs).length).map fun j => match (chainsF qs)[j]? with | some c => CV.d (chD c) | none => .d .none) = (chainsF qs).map fun c => CV.d (chD c) := by
          refine List.ext_getElem? fun i => ?_
          rw [List.getElem?_map, List.getElem?_map]
          by_cases hi : i < (chainsF qs).length
          · rw [List.getElem?_range hi, List.getElem?_eq_getElem hi]
            simp [List.getElem?_eq_getElem hi]
          · rw [List.getElem?_eq_none (by simp; omega), List.getElem?_eq_none (by omega)]
            rfl
        rw [em]
        exact hq _ _ ⟨(.lst (rfs h.length (chainsF qs).length) :: (chainsF qs).map chO) ++ [.lst ((chainsF qs).map fun c => CV.d (chD c))], by unfold stH; rw [List.append_assoc]⟩ (by rw [stH_len]; omega) (by simp)
end HL
namespace HL
open PySem PySem.Spec L2 DL
theorem nice_lst3 {w m : Nat} : ∀ {n : Nat} {d : D}, nice w m n d = true → nice w m n (lstD d) = true := by
  intro n
  induction n with
  | zero =>
    intro d h
    cases d with
    | list xs => cases h
    | tuple xs => cases h
    | dict k => cases h
    | _ => exact h
  | succ n ih =>
    intro d h
    have sq : ∀ xs, (d = .list xs ∨ d = .tuple xs) → nice w m (n + 1) (.list (lstL xs)) = true := fun xs hd => by
      obtain ⟨k, e, h1, h2⟩ := (nice_seq hd).mp h
      cases e
      refine (nice_seq (.inl rfl)).mpr ⟨_, rfl, by rw [lstL_map, List.length_map]; exact h1, fun x hx => ?_⟩
      rw [lstL_map] at hx
      obtain ⟨y, hy, rfl⟩ := List.mem_map.mp hx
      exact ih (h2 y hy)
    cases d with
    | list xs => exact sq xs (.inl rfl)
    | tuple xs => exact sq xs (.inr rfl)
    | dict k => exact (nice_dict h).elim
    | none => exact nice_none
    | bool b => exact nice_bool
    | int i => rw [nice_int] at h; show nice w m (n + 1) (.int i) = true; rw [nice_int]; exact h
    | str x => rw [nice_str] at h; show nice w m (n + 1) (.str x) = true; rw [nice_str]; exact h
theorem good_nw3 {ps : List Str} {n : Nat} {qs : List Q0} (h : GoodLot ps n qs) : nice 1000 59 4 (lotD qs) = true ∧ wt (lotD qs) ≤ 12100 := by
  have l8 := h.l8
  refine ⟨(nice_seq (.inr rfl)).mpr ⟨3, rfl, by simp; omega, fun x hx => ?_⟩, ?_⟩
  · obtain ⟨q, hq, rfl⟩ := List.mem_map.mp hx
    exact (h.good q hq).nice
  · rw [wt_seq (.inr rfl)]
    have := wtAll_le (c := 1000) (xs := qs.map Q0.r) fun x hx => by
      obtain ⟨q, hq, rfl⟩ := List.mem_map.mp hx
      exact (h.good q hq).wt
    rw [List.length_map] at this
    have : (1000 + 2) * qs.length ≤ (1000 + 2) * 12 := Nat.mul_le_mul_left _ l8
    omega
/-- a member whose deed holds tuples alone -/
def Q0.T (q : Q0) : Q0 := { q with rest := q.rest.map tupD }
theorem tupD_t (xs : List D) : tupD (.tuple xs) = .tuple (xs.map tupD) := tup_seq (.inr rfl)
theorem strs_t (ss : List Str) : (ss.map PyData.str).map tupD = ss.map PyData.str := by
  rw [List.map_map]
  all_goals rfl
theorem tup_lot (qs : List Q0) : tupD (lotD qs) = lotD (qs.map Q0.T) := by
  show tupD (.tuple _) = PyData.tuple _
  rw [tupD_t, List.map_map, List.map_map]
  congr 1
  refine List.map_congr_left fun q _ => ?_
  show tupD (.tuple [.str q.t, .tuple (.str q.w :: q.rest), .tuple (q.fs.map PyData.str)]) = _
  rw [tupD_t]
  simp only [List.map_cons, List.map_nil]
  rw [tupD_t, tupD_t, strs_t]
  all_goals rfl
theorem chains_T (qs : List Q0) : chainsF (qs.map Q0.T) = chainsF qs := by
  unfold chainsF
  rw [List.foldl_map]
  all_goals rfl
theorem tok_T : ∀ (qs : List Q0) (pt : Bool), tOk pt (qs.map Q0.T) = tOk pt qs
  | [], _ => rfl
  | q :: qs, pt => by
    rw [List.map_cons, tOk, tOk, tok_T qs]
    all_goals rfl
theorem tok_of {qs : List Q0} (h : ∀ i q, qs[i]? = some q → standsB qs i q = true) : ∀ (suf pre : List Q0) (pt : Bool), qs = pre ++ suf → (pt = true → pre = [] ∨ ∃ p, pre.getLast? = some p ∧ timerB p.w = true) → tOk pt suf = true
  | [], _, _, _, _ => rfl
  | q :: suf, pre, pt, e, hp => by
    have hi : qs[pre.length]? = some q := by rw [e]; simp
    have st := h _ _ hi
    unfold tOk
    rw [Bool.and_eq_true]
    constructor
    · cases ht : timerB q.w with
      | false => rfl
      | true =>
        cases pt with
        | false => rfl
        | true =>
          unfold standsB at st
          rw [ht, if_pos rfl] at st
          rcases hp rfl with rfl | ⟨p, e1, e2⟩
          · simp at st
          · obtain ⟨pi, rfl⟩ : ∃ pi, pre = pi ++ [p] := List.getLast?_eq_some_iff.mp e1
            have ej : qs[pi.length]? = some p := by rw [e]; simp
            rw [List.length_append, List.length_singleton] at st
            simp only [ej, e2] at st
            simp at st
    · refine tok_of h suf (pre ++ [q]) _ (by rw [e]; simp) fun ht => .inr ⟨q, by simp, ht⟩
theorem good_tok {ps : List Str} {n : Nat} {qs : List Q0} (h : GoodLot ps n qs) : tOk true qs = true := tok_of h.st qs [] true rfl fun _ => .inl rfl
/-- names in members -/
def MbOk (p : Mb) : Prop := p.1.length ≤ 1000 ∧ ∀ x, p.2 = some x → x.length ≤ 1000
theorem mb_fit {p : Mb} (h : MbOk p) : fit 1000 1 (mbD p) = true := by
  refine fit_of_tuple (by simp) fun x hx => ?_
  simp only [List.mem_cons, List.not_mem_nil, or_false] at hx
  rcases hx with rfl | rfl
  · exact decide_eq_true h.1
  · cases e : p.2 with
    | none => rfl
    | some x => exact decide_eq_true (h.2 x e)
structure RwOk (n : Nat) (r : Rw) : Prop where
  a : ∀ p ∈ r.rest, MbOk p
  b : ∀ c ∈ r.found, c.length ≤ n ∧ ∀ p ∈ c, MbOk p
  c : ∀ x, r.timer = some x → x.length ≤ 1000
  d : r.rest.length ≤ n
  e : r.found.length ≤ n
theorem rw_ok : ∀ {qs : List Q0}, (∀ q ∈ qs, q.t.length ≤ 1000) → RwOk qs.length (rowsR qs)
  | [], _ => ⟨(fun p hp => by cases hp), (fun p hp => by cases hp), (fun x hx => by cases hx), Nat.le_refl _, Nat.le_refl _⟩
  | q :: qs, h => by
    have i := rw_ok fun x hx => h x (List.mem_cons_of_mem _ hx)
    have hq := h q List.mem_cons_self
    show RwOk (qs.length + 1) (rStep q (rowsR qs))
    have id' := i.d
    have ie' := i.e
    have new : MbOk (q.t, (rowsR qs).timer) := ⟨hq, i.c⟩
    unfold rStep
    split
    · exact ⟨i.a, fun c hc => ⟨by have := (i.b c hc).1; omega, (i.b c hc).2⟩, (fun x hx => by cases hx; exact hq), by simp only; omega, by simp only; omega⟩
    · split
      · refine ⟨fun p hp => ?_, fun c hc => ?_, (fun x hx => by cases hx), by simp, by simp; omega⟩
        · cases List.mem_singleton.mp hp; exact new
        · rcases List.mem_cons.mp hc with rfl | hc
          · exact ⟨by omega, i.a⟩
          · exact ⟨by have := (i.b c hc).1; omega, (i.b c hc).2⟩
      · refine ⟨fun p hp => ?_, fun c hc => ⟨by have := (i.b c hc).1; omega, (i.b c hc).2⟩, (fun x hx => by cases hx), by simp; omega, by simp only; omega⟩
        rcases List.mem_cons.mp hp with rfl | hp
        · exact new
        · exact i.a p hp
theorem rows_fit {qs : List Q0} (h : ∀ q ∈ qs, q.t.length ≤ 1000) (hl : qs.length ≤ 900) : (∀ x ∈ (rowsF qs).map chD, fit 1000 2 x = true) ∧ ((rowsF qs).map chD).length ≤ 1000 := by
  have i := rw_ok h
  have id' := i.d
  have ie' := i.e
  have ch : ∀ c : List Mb, c.length ≤ qs.length → (∀ p ∈ c, MbOk p) → fit 1000 2 (chD c) = true := fun c h1 h2 => by
    refine fit_of_tuple (by simp; omega) fun x hx => ?_
    obtain ⟨p, hp, rfl⟩ := List.mem_map.mp hx
    exact mb_fit (h2 p hp)
  refine ⟨fun x hx => ?_, by simp [rowsF]; omega⟩
  obtain ⟨c, hc, rfl⟩ := List.mem_map.mp hx
  rcases List.mem_cons.mp hc with rfl | hc
  · exact ch _ i.d i.a
  · exact ch _ (i.b c hc).1 (i.b c hc).2
theorem fit_up0 {k : Nat} {d : D} (h : fit 1000 0 d = true) : fit 1000 k d = true := fit_mono (Nat.zero_le k) h
theorem evd_nw {ps : List Str} {n : Nat} {e : D} (h : EvD ps n e) : fit 1000 5 e = true ∧ wt e ≤ 12300 := by
  cases h with
  | put qs g =>
    obtain ⟨h1, h2⟩ := good_nw3 g
    have f4 : fit 1000 4 (lotD qs) = true := nice_fit (by omega) h1
    have w0 : wt (.str (wS "put")) = 32 := by decide +kernel
    refine ⟨fit_of_tuple (by simp) fun x hx => ?_, ?_⟩
    · simp only [List.mem_cons, List.not_mem_nil, or_false] at hx
      rcases hx with rfl | rfl
      · exact fit_up0 (by decide +kernel)
      · exact f4
    · rw [wt_seq (.inr rfl), wtAll, wtAll, wtAll, w0]
      omega
  | other w rest h1 h2 h3 =>
    have hw : w.length ≤ 10 := by
      unfold evW at h1
      rw [Bool.and_eq_true] at h1
      exact of_decide_eq_true h1.2
    have wr := wtAll_le (c := 200) fun x hx => (h3 x hx).2
    have : (200 + 2) * rest.length ≤ (200 + 2) * 2 := Nat.mul_le_mul_left _ h2
    refine ⟨fit_of_tuple (by simp; omega) fun x hx => ?_, ?_⟩
    · rcases List.mem_cons.mp hx with rfl | hx
      · exact decide_eq_true (by omega)
      · exact fit_up0 (h3 x hx).1
    · have : wt (.str w) = 10 * w.length + 2 := rfl
      rw [wt_seq (.inr rfl), wtAll]
      omega
theorem evs_nw {ps : List Str} {n : Nat} {es : List D} (h : ∀ e ∈ es, EvD ps n e) (hl : es.length ≤ 12) : fit 1000 6 (.tuple es) = true ∧ wt (.tuple es) ≤ 150000 := by
  have w := wtAll_le (c := 12300) fun x hx => (evd_nw (h x hx)).2
  have : (12300 + 2) * es.length ≤ (12300 + 2) * 12 := Nat.mul_le_mul_left _ hl
  refine ⟨fit_of_tuple (by omega) fun x hx => (evd_nw (h x hx)).1, ?_⟩
  rw [wt_seq (.inr rfl)]
  omega
theorem evT_fit {ps : List Str} {n : Nat} {e : D} (h : EvD ps n e) : ∀ x ∈ evT e, fit 1000 0 x = true := by
  cases h with
  | put qs g =>
    rw [evT_put]
    intro x hx
    obtain ⟨q, hq, rfl⟩ := List.mem_map.mp hx
    have rq := (g.good q hq).ok.rq.tag
    obtain ⟨_, h2⟩ := word_asc (show wordB 8 q.t = true from rq)
    exact decide_eq_true (by omega)
  | other w rest h1 _ _ =>
    rw [evT_other (evW_ne h1)]
    simp
theorem flat_fit {ps : List Str} {n : Nat} {es : List D} (h : ∀ e ∈ es, EvD ps n e) (hl : es.length ≤ 12) : fit 1000 1 (.tuple (es.flatMap evT)) = true := by
  have := flat_len fun e he => evd_t (h e he)
  refine fit_of_tuple (by omega) fun x hx => ?_
  obtain ⟨e, he, hx⟩ := List.mem_flatMap.mp hx
  exact evT_fit (h e he) x hx
/-- what a good lot gives to the law -/
structure LotG (qs : List Q0) : Prop where
  fit4 : fit 1000 4 (lotD qs) = true
  fitL : fit 1000 4 (lstD (lotD qs)) = true
  wt : wt (lotD qs) ≤ 12100
  shown : fRepr [lotD qs] = some (.str (PyData.shown (lotD qs)))
  tok : tOk true qs = true
  same : chainsF qs = rowsF qs
  fitR : ∀ x ∈ (rowsF qs).map chD, fit 1000 2 x = true
  lenR : ((rowsF qs).map chD).length ≤ 1000
  len : qs.length ≤ 12
  fs : ∀ q ∈ qs, q.fs.length ≤ 1000
theorem lotG_of {ps : List Str} {n : Nat} {qs : List Q0} (h : GoodLot ps n qs) : LotG qs := by
  obtain ⟨h1, h2⟩ := good_nw3 h
  have tl : ∀ q ∈ qs, q.t.length ≤ 1000 := fun q hq => by
    obtain ⟨_, h2⟩ := word_asc (show wordB 8 q.t = true from (h.good q hq).ok.rq.tag)
    omega
  have l8 := h.l8
  have rf := rows_fit tl (by omega)
  exact ⟨nice_fit (by omega) h1, nice_fit (by omega) (nice_lst3 h1), h2, nice_repr (by decide +kernel) (by omega) (by omega) h1 h2 (by omega), good_tok h, chains_rows (good_tok h) (fun e => by have := h.l0; rw [e] at this; simp at this), rf.1, rf.2, l8, fun q hq => by have := (h.good q hq).ok.fl; omega⟩
end HL
namespace HL
open PySem PySem.Spec GH GW
open DL (FSem FNew fEq fNe fTuple fRepr wo fMul2 fAdd j8 mNeg fit tupD lstD wt Sl)
/-- the box of draws, an object -/
def BoxAt (t n : Nat) (h : Hh) : Prop := ∃ b : List D, h[n]? = some (.lst (b.map CV.d)) ∧ Box t b
/-- all but the box stays -/
structure Kp (n : Nat) (h h' : Hh) : Prop where
  len : h.length ≤ h'.length
  at_ : ∀ m o, m ≠ n → h[m]? = some o → h'[m]? = some o
section
variable {n t u : Nat} {h h' h'' : Hh} {b : List D}
theorem BoxAt.lt (a : BoxAt t n h) : n < h.length := by
  obtain ⟨b, e, _⟩ := a
  exact (List.getElem?_eq_some_iff.mp e).1
theorem BoxAt.mono (a : BoxAt t n h) (l : t ≤ u) : BoxAt u n h := by
  obtain ⟨b, e, x⟩ := a
  exact ⟨b, e, x.mono l⟩
theorem BoxAt.ext (a : BoxAt t n h) (e : Ext h h') : BoxAt t n h' := by
  obtain ⟨b, e1, x⟩ := a
  exact ⟨b, e.at e1, x⟩
theorem Kp.rfl' : Kp n h h := ⟨Nat.le_refl _, fun _ _ _ e => e⟩
theorem Kp.trans (a : Kp n h h') (b : Kp n h' h'') : Kp n h h'' := ⟨Nat.le_trans a.len b.len, fun m o ne e => b.at_ m o ne (a.at_ m o ne e)⟩
theorem Ext.kp (e : Ext h h') : Kp n h h' := ⟨e.len, fun m o _ z => e.at z⟩
theorem kp_set {o : CO} : Kp n h (h.set n o) := ⟨by simp, fun m o ne e => by rw [List.getElem?_set_ne (by omega)]; exact e⟩
theorem set_at {o : CO} (l : n < h.length) : (h.set n o)[n]? = some o := by rw [List.getElem?_set_self l]
theorem slC_own (e : h[n]? = some (.lst (b.map CV.d))) : slC h (.ref n) = some (.own b) := by
  unfold slC
  simp only [e, dats_map]
theorem slC_d {x : D} : slC h (.d x) = some (.d x) := rfl
theorem slC_scr {ns : List Int} : slC h (.scr ns) = some (.scr (.nums ns)) := rfl
theorem ext1 {o : CO} : Ext h (h ++ [o]) := ⟨[o], rfl⟩
theorem at_end {o : CO} : (h ++ [o])[h.length]? = some o := by simp
end
section
variable {n t : Nat} {h : Hh} {fr : Fr} {R : Fl → Fr → Hh → Prop} {Q : CV → Hh → Prop} {QL : List CV → Hh → Prop}
theorem names_call {N : FNew} (hN : NamesOk N) (f0 : fr[0]? = some (some (.ref n))) (hb : BoxAt t n h) (ht : t + 300 ≤ 1000000000)
    (hq : ∀ (ss : List Str) h1 r, Kp n h h1 → BoxAt (t + 240) n h1 → h.length ≤ r → h1[r]? = some (.lst ((ss.map PyData.str).map CV.d)) → ss.length = 12 → (∀ s ∈ ss, wordB 8 s = true) → ss.Nodup → Q (.ref r) h1) : gw (gNew (nFo N (j6 (j9 0) (j6 (gL (j8 (.int 12))) j7))) fr h) Q := by
  obtain ⟨b, hn, hbx⟩ := hb
  have hl := (List.getElem?_eq_some_iff.mp hn).1
  simp only [gw_new, gw_nfo, gw_cons, gw_var, f0, so_some, gw_nil, gw_cst, slCs, slC_own hn, slC_d, refsOf]
  refine ⟨by simp, hN t b 12 _ hbx (by omega) (by omega) fun ss b1 hb1 sl sw sn => ?_⟩
  simp only [backC, back1]
  exact hq ss _ _ (kp_set.trans ext1.kp) (BoxAt.ext ⟨b1, set_at hl, hb1⟩ ext1) (by simp) at_end sl sw sn
theorem name_call {A : FSem} (hA : NameOk A) (f0 : fr[0]? = some (some (.ref n))) (hb : BoxAt t n h) (ht : t + 10 ≤ 1000000000)
    (hq : ∀ (s : Str) h1, Kp n h h1 → BoxAt (t + 10) n h1 → wordB 8 s = true → Q (.d (.str s)) h1) : gw (gFo A (j6 (j9 0) j7) fr h) Q := by
  obtain ⟨b, hn, hbx⟩ := hb
  have hl := (List.getElem?_eq_some_iff.mp hn).1
  simp only [gw_fo, gw_cons, gw_var, f0, so_some, gw_nil, slCs, slC_own hn, refsOf]
  refine ⟨by simp, hA t b _ hbx ht fun s b1 hb1 hs => ?_⟩
  simp only [backC, back1]
  exact hq s _ kp_set ⟨b1, set_at hl, hb1⟩ hs
theorem st_lot {N : FNew} {A P : FSem} (hN : NamesOk N) (hA : NameOk A) (hP : LawLotMk P) {sp ro : Int} {ps : List Str} {sl : List (Option Str)} (hs : SetupOk 1 sp ro ps sl) (f0 : fr[0]? = some (some (.ref n))) (f1 : fr[1]? = some (some (.d (mkSetup sp ro ps sl)))) (hb : BoxAt t n h) (ht : t + 1000 ≤ 1000000000)
    (hq : ∀ qs h1, GoodLot ps sl.length qs → Kp n h h1 → BoxAt (t + 500) n h1 → R .nx (fr.set 3 (some (.d (lotD qs)))) h1) :
    gs (sSet 3 (gFo P (j6 (j9 0) (j6 (j9 1) (j6 (gNew (nFo N (j6 (j9 0) (j6 (gL (j8 (.int 12))) j7)))) (j6 (gNew (nLst (j6 (gFo A (j6 (j9 0) j7)) j7))) (j6 (gL (j8 (.int 6))) j7)))))) fr h) R := by
  have nl := hb.lt
  rw [gs_set, gw_fo, gw_cons, gw_var, f0, so_some, so_some, gw_cons, gw_var, f1, so_some, so_some, gw_cons]
  refine names_call hN f0 hb (by omega) fun ss h1 r1 k1 b1 l1 a1 sl1 sw sn => ?_
  rw [gw_cons, gw_new, gw_lst, gw_cons]
  refine name_call hA f0 b1 (by omega) fun g h2 k2 b2 gw => ?_
  have r1n : r1 ≠ n := by omega
  have l1' := (List.getElem?_eq_some_iff.mp a1).1
  have a2 := k2.at_ _ _ r1n a1
  have l2 := k2.len
  rw [gw_nil]
  refine ⟨(show 1 ≤ sizeLine by decide), ?_⟩
  rw [gw_cons, gw_cst, gw_nil]
  obtain ⟨b, hn, hbx⟩ := b2
  have hl2 := (List.getElem?_eq_some_iff.mp hn).1
  have e0 := slC_own (ext1 (o := .lst [.d (.str g)]).at hn)
  have e1 := slC_own (ext1 (o := .lst [.d (.str g)]).at a2)
  have e2 : slC (h2 ++ [.lst [.d (.str g)]]) (.ref h2.length) = some (.own ([g].map PyData.str)) := slC_own (b := [g].map PyData.str) at_end
  have nd : (refsOf [CV.ref n, .d (mkSetup sp ro ps sl), .ref r1, .ref h2.length, .d (.int 6)]).Nodup := by
    simp only [refsOf, List.nodup_cons, List.mem_cons, List.not_mem_nil, or_false]
    refine ⟨?_, ?_, by simp, by simp⟩ <;> omega
  simp only [slCs, e0, e1, e2, slC_d, so_some]
  refine ⟨nd, hP (t + 250) b sp ro ps sl 6 1 ss [g] _ hbx hs (by omega) (by omega) (by omega) (by omega) (by omega) (by omega) sw sn (by simpa using gw) (by simp) fun qs b' ns' gs' hb' gd a1 a2 a3 a4 a5 => ?_⟩
  simp only [backC, back1]
  have kk : ∀ x y z, Kp n h ((((h2 ++ [CO.lst [.d (.str g)]]).set n x).set r1 y).set h2.length z) := fun x y z => by
    have k3 : Kp n h (h2 ++ [CO.lst [.d (.str g)]]) := (k1.trans k2).trans ext1.kp
    refine ⟨by simpa using k3.len, fun m o ne e => ?_⟩
    have hm := (List.getElem?_eq_some_iff.mp e).1
    have h12 := k1.len
    rw [List.getElem?_set_ne (by omega), List.getElem?_set_ne (by omega), List.getElem?_set_ne (by omega)]
    exact k3.at_ m o ne e
  refine hq qs _ gd (kk _ _ _) ⟨b', ?_, hb'.mono (by omega)⟩
  rw [List.getElem?_set_ne (by omega), List.getElem?_set_ne (by omega), set_at (by simp; omega)]
theorem st_mix {k : Nat} {A M : FSem} {qs : List Q0} (hA : RowsOk A) (hM : MixOk k M) (f4 : fit 1000 k (lotD qs) = true) (l : LotG qs) (f0 : fr[0]? = some (some (.ref n))) (f3 : fr[3]? = some (some (.d (lotD qs)))) (hb : BoxAt t n h) (ht : t + 13000 ≤ 1000000000)
    (hq : ∀ y h1, tupD y = tupD (lotD qs) → fit 1000 k y = true → Kp n h h1 → BoxAt (t + 13000) n h1 → R .nx (((fr.set 4 (some (.d (.list ((rowsF qs).map chD))))).set 5 (some (.d y))).set 6 (some (.d (.str (PyData.shown (lotD qs)))))) h1) :
    gs (sPar [4, 5, 6] (j6 (gFo A (j6 (j9 3) j7)) (j6 (gFo M (j6 (j9 0) (j6 (j9 3) j7))) (j6 (gCall (j6 (j9 3) j7) fRepr) j7))) fr h) R := by
  obtain ⟨b, hn, hbx⟩ := hb
  have hl := (List.getElem?_eq_some_iff.mp hn).1
  have ll := l.len
  have ra := hA qs (by omega) l.fs
  have lw := l.wt
  simp only [gs_par, gw_cons, gw_fo, gw_var, f0, f3, so_some, gw_nil, slCs, slC_d, refsOf, ra, DL.y6, backC, back1, slC_own hn]
  refine ⟨by simp, by simp, hM t b (lotD qs) _ hbx f4 (by omega) fun y b' hy hf hb' => ?_⟩
  simp only [gw_call, gw_cons, gw_var, f3, so_some, gw_nil, vws, vw, l.shown, backC, back1]
  exact ⟨by simp, hq y _ hy hf kp_set ⟨b', set_at hl, hb'.mono (by omega)⟩⟩
end
end HL
namespace HL
open PySem PySem.Spec GH GW
open DL (FSem FNew fEq fNe fTuple fRepr wo fMul2 fAdd j8 mNeg fit tupD lstD wt Sl)
abbrev dueD (qs : List Q0) : List PyData := (rowsF qs).map chD
theorem vw_ref {h : Hh} {r : Nat} {ds : List PyData} (e : h[r]? = some (.lst (ds.map CV.d))) : vw h (.ref r) = some (.list ds) := by
  unfold vw
  simp only [e, dats_map]
theorem vws_ds {h : Hh} : ∀ ds : List PyData, vws h (ds.map CV.d) = some ds
  | [] => rfl
  | d :: ds => by
    rw [List.map_cons]
    unfold vws
    rw [vws_ds ds]
    all_goals rfl
theorem vw2_ref {h : Hh} {r : Nat} {ds : List PyData} (e : h[r]? = some (.lst (ds.map CV.d))) : vw2 h (.ref r) = some (.list ds) := by
  unfold vw2
  simp only [e, vws_ds]
theorem fNeS (a b : Str) : fNe (.str a) (.str b) = some (.bool (!(a == b))) := by
  unfold fNe
  rw [if_pos (by unfold DL.flatD; simp [PyData.depth])]
  all_goals rfl
theorem mul_list (d : PyData) (k : Nat) (hk : k ≤ 1000) : fMul2 (.list [d]) (.int k) = some (.list (List.replicate k d)) := by
  have e : (k : Int).toNat = k := by simp
  have this : (decide ((0 : Int) ≤ (k : Int)) && decide ((k : Int) < 2 ^ 63) && decide ([d].length * ((k : Int).toNat) ≤ sizeLine)) = true := by
    have s : k ≤ sizeLine := Nat.le_trans hk (by decide)
    rw [e]
    simp
    exact ⟨by omega, s⟩
  have e2 : fMul2 (.list [d]) (.int k) = if (decide ((0 : Int) ≤ (k : Int)) && decide ((k : Int) < 2 ^ 63) && decide ([d].length * ((k : Int).toNat) ≤ sizeLine)) = true then some (.list (List.replicate (k : Int).toNat [d]).flatten) else none := rfl
  rw [e2, if_pos this, e, List.flatten_replicate_singleton]
theorem vw2_d {h : Hh} {x : PyData} : vw2 h (.d x) = some x := rfl
theorem chains_g {G : GSem} (hG : ChainsOk 4 G) {qs : List Q0} (l : LotG qs) {y : PyData} (hy : tupD y = tupD (lotD qs)) (hf : fit 1000 4 y = true) {h : Hh} {Q : CV → Hh → Prop} (hq : ∀ h' r, Ext h h' → h.length ≤ r → h'[r]? = some (.lst ((dueD qs).map CV.d)) → Q (.ref r) h') : gw (G [.d y] h) Q := by
  have ll := l.len
  refine hG y (qs.map Q0.T) h Q hf (hy.trans (tup_lot qs)) (by simp; omega) (fun q hq => ?_) (by rw [tok_T]; exact l.tok) fun h' r e lr a => hq h' r e lr ?_
  · obtain ⟨q', hq', rfl⟩ := List.mem_map.mp hq
    exact l.fs q' hq'
  · rw [chains_T, l.same] at a
    rw [a, List.map_map]
    all_goals rfl
section
variable {n t : Nat} {h : Hh} {fr : Fr} {R : Fl → Fr → Hh → Prop} {Q : CV → Hh → Prop} {QL : List CV → Hh → Prop} {qs : List Q0}
theorem st_told {G : GSem} {L : FSem} (hG : ChainsOk 4 G) (hL : ListsOk 4 L) (l : LotG qs) {y : PyData} (hy : tupD y = tupD (lotD qs)) (hf : fit 1000 4 y = true) (f3 : fr[3]? = some (some (.d (lotD qs)))) (f5 : fr[5]? = some (some (.d y)))
    (hq : ∀ h1 r0 r1 r2 r3, Ext h h1 → h.length ≤ r1 → h1[r0]? = some (.lst [.ref r1, .ref r2, .ref r3]) → h1[r1]? = some (.lst ((dueD qs).map CV.d)) → h1[r2]? = some (.lst ((dueD qs).map CV.d)) → h1[r3]? = some (.lst ((dueD qs).map CV.d)) → R .nx (fr.set 7 (some (.ref r0))) h1) :
    gs (sSet 7 (gNew (nLst (j6 (gFn G (j6 (j9 3) j7)) (j6 (gFn G (j6 (gFo L (j6 (j9 3) j7)) j7)) (j6 (gFn G (j6 (j9 5) j7)) j7))))) fr h) R := by
  have hl := hL _ l.fit4
  simp only [gs_set, gw_new, gw_lst, gw_cons, gw_fn, gw_var, f3, f5, so_some, gw_nil]
  refine chains_g hG l rfl l.fit4 fun h1 r1 e1 l1 a1 => ?_
  simp only [gw_fo, gw_cons, gw_var, f3, so_some, gw_nil, slCs, slC_d, refsOf, hl, DL.y6, backC, back1]
  refine ⟨by simp, chains_g hG l DL.tup_lst l.fitL fun h2 r2 e2 l2 a2 => ?_⟩
  refine chains_g hG l hy hf fun h3 r3 e3 l3 a3 => ?_
  refine ⟨(show 3 ≤ sizeLine by decide), hq _ h3.length r1 r2 r3 ((e1.trans e2).trans (e3.trans ext1)) l1 at_end ((e2.trans (e3.trans ext1)).at a1) ((e3.trans ext1).at a2) (ext1.at a3)⟩
theorem st_same {S : FSem} (hS : SameOk 4 S) (l : LotG qs) {r0 r1 r2 r3 : Nat} (f3 : fr[3]? = some (some (.d (lotD qs)))) (f4 : fr[4]? = some (some (.d (.list (dueD qs))))) (f6 : fr[6]? = some (some (.d (.str (PyData.shown (lotD qs)))))) (f7 : fr[7]? = some (some (.ref r0)))
    (a0 : h[r0]? = some (.lst [.ref r1, .ref r2, .ref r3])) (a1 : h[r1]? = some (.lst ((dueD qs).map CV.d))) (a2 : h[r2]? = some (.lst ((dueD qs).map CV.d))) (a3 : h[r3]? = some (.lst ((dueD qs).map CV.d))) (hq : R .nx fr h) :
    gs (sIf (tOr (gNot (gTru (gFv S (j6 (j9 7) (j6 (gBin (gDat (nLst (j6 (j9 4) j7))) (gL (j8 (.int 3))) fMul2) j7))))) (tBin (gCall (j6 (j9 3) j7) fRepr) (j9 6) fNe)) (q6 (sRt (gL (j8 (.bool false)))) sNx) sNx fr h) R := by
  have v0 : vw2 h (.ref r0) = some (.list [.list (dueD qs), .list (dueD qs), .list (dueD qs)]) := by
    unfold vw2
    simp only [a0, vws, vw_ref a1, vw_ref a2, vw_ref a3]
  have fl : fit 1000 3 (.list (dueD qs)) = true := DL.fit_of_list l.lenR l.fitR
  have sm := hS (.list [.list (dueD qs), .list (dueD qs), .list (dueD qs)]) (DL.fit_of_list (by simp) fun x hx => by
    simp only [List.mem_cons, List.not_mem_nil, or_false, or_self] at hx
    rw [hx]
    exact fl)
  have m3 : fMul2 (.list [.list (dueD qs)]) (.int 3) = some (.list [.list (dueD qs), .list (dueD qs), .list (dueD qs)]) := mul_list (.list (dueD qs)) 3 (by omega)
  simp only [gs_if, gw_tOr, gw_not, gw_tru, gw_fv, gw_cons, gw_var, f7, so_some, gw_bin, gw_dat, gw_lst, f4, gw_nil, gw_cst, dats, vwd, m3, vws2, v0, vw2_d, vw, List.map_cons, List.map_nil, sm, DL.y6, atomD, DL.truth, gw_tBin, gw_call, f3, vws, l.shown, f6, fNeS, isB, beq_self_eq_true, Bool.not_true, Bool.false_eq_true, if_false, gs_nx]
  exact ⟨(show 1 ≤ sizeLine by decide), trivial, hq⟩
theorem st_more (l : LotG qs) {r0 r1 r2 r3 : Nat} (hb : BoxAt t n h) (hn : r1 ≠ n) (f7 : fr[7]? = some (some (.ref r0))) (a0 : h[r0]? = some (.lst [.ref r1, .ref r2, .ref r3])) (a1 : h[r1]? = some (.lst ((dueD qs).map CV.d))) (hq : ∀ h1, BoxAt t n h1 → R .nx fr h1) :
    gs (sEx (gApp (gIx (j9 7) (gL (j8 (.int 0)))) (gL (j8 (.str (Str.ofString "more"))))) fr h) R := by
  have e0 : ixC h (.ref r0) (.d (.int 0)) = some (.ref r1) := by
    unfold ixC
    simp only [a0]
    all_goals rfl
  have e1 : lstAt h (.ref r1) = some (r1, (dueD qs).map CV.d) := by
    unfold lstAt
    simp only [a1]
  have lr := l.lenR
  have sz : ((dueD qs).map CV.d).length < sizeLine := Nat.lt_of_le_of_lt (show _ ≤ 1000 by rw [List.length_map]; exact lr) (by decide)
  simp only [gs_ex, gw_app, gw_ix, gw_var, f7, so_some, gw_cst, e0, e1]
  refine ⟨sz, hq _ ?_⟩
  obtain ⟨b, hn', hbx⟩ := hb
  exact ⟨b, by rw [List.getElem?_set_ne (by omega)]; exact hn', hbx⟩
theorem st_again {G : GSem} {S : FSem} (hG : ChainsOk 4 G) (hS : SameOk 4 S) (l : LotG qs) (hb : BoxAt t n h) (f3 : fr[3]? = some (some (.d (lotD qs)))) (f4 : fr[4]? = some (some (.d (.list (dueD qs))))) (hq : ∀ h1, BoxAt t n h1 → R .nx fr h1) :
    gs (sIf (gNot (gTru (gFv S (j6 (gFn G (j6 (j9 3) j7)) (j6 (j9 4) j7))))) (q6 (sRt (gL (j8 (.bool false)))) sNx) sNx fr h) R := by
  have fl : fit 1000 3 (.list (dueD qs)) = true := DL.fit_of_list l.lenR l.fitR
  have sm := hS (.list (dueD qs)) (DL.fit_mono (by omega) fl)
  simp only [gs_if, gw_not, gw_tru, gw_fv, gw_cons, gw_var, f3, so_some, gw_nil, gw_fn]
  refine chains_g hG l rfl l.fit4 fun h1 r1 e1 l1 a1 => ?_
  simp only [f4, so_some, vws2, vw2_ref a1, vw2_d, vw, List.map_cons, List.map_nil, sm, DL.y6, atomD, DL.truth, Bool.not_true, Bool.false_eq_true, if_false, gs_nx]
  exact ⟨trivial, hq _ (hb.ext e1)⟩
theorem st_script {Z : FSem} (hZ : ScriptOk Z) {sp ro : Int} {ps : List Str} {sl : List (Option Str)} (hs : SetupOk 1 sp ro ps sl) (f0 : fr[0]? = some (some (.ref n))) (f1 : fr[1]? = some (some (.d (mkSetup sp ro ps sl)))) (hb : BoxAt t n h) (ht : t + 3000 ≤ 1000000000)
    (hq : ∀ es h1, es.length ≤ 12 → (∀ e ∈ es, EvD ps sl.length e) → BoxAt (t + 3000) n h1 → R .nx (fr.set 8 (some (.d (.tuple es)))) h1) :
    gs (sSet 8 (gFo Z (j6 (j9 0) (j6 (j9 1) (j6 (gL (j8 (.int 9))) j7)))) fr h) R := by
  obtain ⟨b, hn, hbx⟩ := hb
  have hl := (List.getElem?_eq_some_iff.mp hn).1
  simp only [gs_set, gw_fo, gw_cons, gw_var, f0, f1, so_some, gw_nil, gw_cst, slCs, slC_own hn, slC_d, refsOf]
  refine ⟨by simp, hZ t b sp ro ps sl 9 _ hbx hs ht (by omega) fun es b' hb' le he => ?_⟩
  simp only [backC, back1]
  exact hq es _ le he ⟨b', set_at hl, hb'⟩
theorem evs_len {ps : List Str} {k : Nat} {es : List PyData} (h : ∀ e ∈ es, EvD ps k e) : (es.flatMap evT).length ≤ 12 * es.length := flat_len fun e he => evd_t (h e he)
/-- what is read of a value whatever becomes of the box -/
def Vk (n : Nat) (h : Hh) (x : CV) (ds : List PyData) : Prop := ∀ h1, Kp n h h1 → vw h1 x = some (.list ds)
theorem st_due {ps : List Str} {k : Nat} {es : List PyData} (hl : es.length ≤ 12) (he : ∀ e ∈ es, EvD ps k e) {a0 a1 a2 a3 a5 a6 a7 a9 a10 : Option CV} {x : CV} (v4 : Vk n h x [])
    (hq : ∀ x a9 a10, Vk n h x (es.flatMap evT) → R .nx [a0, a1, a2, a3, some x, a5, a6, a7, some (.d (.tuple es)), a9, a10] h) :
    gs (sFor (iV (j9 8)) (.nm 9) (q6 (sSet 4 (gBin (j9 4) (gIf (tBin (gIx (j9 9) (gL (j8 (.int 0)))) (gL (j8 (.str (Str.ofString "put")))) fEq) (gDat (nLc (iV (gIx (j9 9) (gL (j8 (.int 1))))) (.nm 10) tYes (gIx (j9 10) (gL (j8 (.int 0)))))) (gDat (nLst j7))) fAdd)) sNx) [a0, a1, a2, a3, some x, a5, a6, a7, some (.d (.tuple es)), a9, a10] h) R := by
  simp only [gs_for, gi_v, gw_var, List.getElem?_cons_succ, List.getElem?_cons_zero, so_some, iterV]
  refine for_fix (by simp) (fun zs fr h1 => h1 = h ∧ ∃ (pre suf : List PyData) (x : CV) (a9 a10 : Option CV), es = pre ++ suf ∧ zs = suf.map CV.d ∧ fr = [a0, a1, a2, a3, some x, a5, a6, a7, some (.d (.tuple es)), a9, a10] ∧ Vk n h x (pre.flatMap evT)) ⟨rfl, [], es, x, a9, a10, rfl, rfl, rfl, v4⟩ ?_ ?_
  · rintro z zs' _ h1 ⟨rfl, pre, suf, x, a9, a10, e1, e2, rfl, v⟩
    cases suf with
    | nil => simp at e2
    | cons e suf =>
      simp only [List.map_cons, List.cons.injEq] at e2
      obtain ⟨rfl, rfl⟩ := e2
      have hev := he e (by rw [e1]; simp)
      have le : (pre.flatMap evT ++ evT e).length ≤ sizeLine := by
        have := evs_len (es := pre ++ [e]) fun x hx => he x (by
          rw [e1]
          rcases List.mem_append.mp hx with hx | hx
          · exact List.mem_append_left _ hx
          · cases List.mem_singleton.mp hx; simp)
        simp only [List.flatMap_append, List.flatMap_cons, List.flatMap_nil, List.append_nil, List.length_append, List.length_singleton] at this
        have l1 : pre.length + 1 ≤ 12 := by rw [e1] at hl; simp at hl; omega
        refine Nat.le_trans (m := 144) ?_ (by decide)
        rw [List.length_append]
        omega
      have add : fAdd (.list (pre.flatMap evT)) (.list (evT e)) = some (.list (pre.flatMap evT ++ evT e)) := by
        have e2 : fAdd (.list (pre.flatMap evT)) (.list (evT e)) = if (pre.flatMap evT).length + (evT e).length ≤ sizeLine then some (.list (pre.flatMap evT ++ evT e)) else none := rfl
        rw [e2, ← List.length_append, if_pos le]
      have nx : ∀ (a9 a10 : Option CV), h1 = h1 ∧ ∃ (pre' suf' : List PyData) (x' : CV) (b9 b10 : Option CV), es = pre' ++ suf' ∧ suf.map CV.d = suf'.map CV.d ∧ [a0, a1, a2, a3, some (.d (.list (pre.flatMap evT ++ evT e))), a5, a6, a7, some (.d (.tuple es)), a9, a10] = [a0, a1, a2, a3, some x', a5, a6, a7, some (.d (.tuple es)), b9, b10] ∧ Vk n h1 x' (pre'.flatMap evT) := fun a9 a10 =>
        ⟨rfl, pre ++ [e], suf, _, a9, a10, by rw [e1]; simp, rfl, rfl, fun h2 _ => by simp [vw]⟩
      have bd : bindT (.nm 9) (.d e) [a0, a1, a2, a3, some x, a5, a6, a7, some (.d (.tuple es)), a9, a10] = some [a0, a1, a2, a3, some x, a5, a6, a7, some (.d (.tuple es)), some (.d e), a10] := rfl
      have v' := v h1 Kp.rfl'
      rw [bd, so_some]
      rcases (evd_t hev).put with ⟨qs, hq', rfl⟩ | ⟨w, rest, hw, rfl⟩
      · have i0 : DL.fIx (.tuple [.str (wS "put"), lotD qs]) (.int 0) = some (.str (wS "put")) := at0
        have i1 : DL.fIx (.tuple [.str (wS "put"), lotD qs]) (.int 1) = some (lotD qs) := rfl
        have iv : iterV h1 (.d (lotD qs)) = some (fix ((qs.map Q0.r).map CV.d), (qs.map Q0.r).length) := rfl
        have wp : (wS "put" == Str.ofString "put") = true := beq_self_eq_true _
        have qz : (qs.map Q0.r).length ≤ sizeLine := Nat.le_trans (show _ ≤ 12 by simpa using hq') (by decide)
        rw [evT_put] at add nx
        simp only [gs_seq, gs_set, gw_bin, gw_var, List.getElem?_cons_succ, List.getElem?_cons_zero, so_some, gw_if, gw_tBin, gw_ix, gw_cst, ixd, i0, i1, Option.map_some, vwd, fEqS, isB, wp, if_true, gw_dat, gw_lc, gi_v, iv]
        refine ⟨qz, lc_fx (by simp) (fun zs acc h2 => h2 = h1 ∧ ∃ pre suf : List Q0, qs = pre ++ suf ∧ zs = (suf.map Q0.r).map CV.d ∧ acc = pre.map fun q => CV.d (.str q.t)) ⟨rfl, [], qs, rfl, rfl, rfl⟩ ?_ ?_⟩
        · rintro z zs acc h2 ⟨rfl, pre, suf, e3, e4, rfl⟩
          cases suf with
          | nil => simp at e4
          | cons q suf =>
            simp only [List.map_cons, List.cons.injEq] at e4
            obtain ⟨rfl, rfl⟩ := e4
            have iq : DL.fIx q.r (.int 0) = some (.str q.t) := at0
            have bd2 : ∀ f : Fr, bindT (.nm 10) (.d q.r) (wipeF [a0, a1, a2, a3, some x, a5, a6, a7, some (.d (.tuple es)), some (.d (.tuple [.str (wS "put"), lotD qs])), a10] (DL.Tg.ix (.nm 10))) = some [a0, a1, a2, a3, some x, a5, a6, a7, some (.d (.tuple es)), some (.d (.tuple [.str (wS "put"), lotD qs])), some (.d q.r)] := fun _ => rfl
            rw [bd2 [], so_some]
            simp only [tYes, gw_some, if_true, gw_ix, gw_var, List.getElem?_cons_succ, List.getElem?_cons_zero, so_some, gw_cst, ixd, iq, Option.map_some]
            exact ⟨trivial, pre ++ [q], suf, by rw [e3]; simp, rfl, by simp⟩
        · rintro acc h2 ⟨rfl, pre, suf, e3, e4, rfl⟩
          have : suf = [] := by cases suf with | nil => rfl | cons a b => simp at e4
          subst this
          rw [List.append_nil] at e3
          subst e3
          have dm : dats (qs.map fun q => CV.d (.str q.t)) = some (qs.map fun q => .str q.t) := by
            have := dats_map (qs.map fun q => PyData.str q.t)
            rwa [List.map_map] at this
          simp only [dm, so_some, v', vwd, add, gs_nx]
          exact ⟨trivial, (nx _ _).2⟩
      · have i0 : DL.fIx (.tuple (.str w :: rest)) (.int 0) = some (.str w) := at0
        have wp : (w == Str.ofString "put") = false := by simpa using hw
        rw [evT_other hw] at add nx
        simp only [gs_seq, gs_set, gw_bin, gw_var, List.getElem?_cons_succ, List.getElem?_cons_zero, so_some, gw_if, gw_tBin, gw_ix, gw_cst, ixd, i0, Option.map_some, vwd, fEqS, isB, wp, Bool.false_eq_true, if_false, gw_dat, gw_lst, gw_nil, dats, v', add, gs_nx]
        exact ⟨(show 0 ≤ sizeLine by decide), trivial, (nx _ _).2⟩
  · rintro _ _ ⟨rfl, pre, suf, x, a9, a10, e1, e2, rfl, v⟩
    have : suf = [] := by cases suf with | nil => rfl | cons a b => simp at e2
    subst this
    rw [List.append_nil] at e1
    subst e1
    exact hq x a9 a10 v
end
end HL
namespace GW
open PySem PySem.Spec GH
def isN : CV → Option Int
  | .d (.int i) => some i
  | _ => none
theorem gi_rg1 {m : ME} {fr : Fr} {h : Hh} {P : Ir → Nat → Hh → Prop} : gi (iRg1 m fr h) P ↔ gw (m fr h) fun x h1 => so (isN x) fun n => (-(2 ^ 62) ≤ n ∧ n < 2 ^ 62) ∧ P (fix (rgC 0 n.toNat)) (DL.rangeD 0 n.toNat).length h1 := by
  unfold iRg1
  rcases m fr h with _ | ⟨x, h1⟩
  · simp
  · simp only [gw_some]
    unfold isN
    cases x with
    | d d =>
      cases d with
      | int n =>
        simp only [so_some]
        by_cases hn : -(2 ^ 62) ≤ n ∧ n < 2 ^ 62
        · rw [if_pos hn]
          simp only [gi_some]
          exact ⟨fun p => ⟨hn, p⟩, fun p => p.2⟩
        · rw [if_neg hn]
          simp only [gi_none, false_iff]
          exact fun p => hn p.1
      | _ => simp
    | _ => simp
end GW
namespace HL
open PySem PySem.Spec GH GW
open DL (FSem FNew fEq fNe fTuple fRepr wo fMul2 fAdd fAll fMin j8 mNeg fit tupD lstD wt Sl)
section
variable {n t : Nat} {h : Hh} {fr : Fr} {R : Fl → Fr → Hh → Prop} {Q : CV → Hh → Prop} {QL : List CV → Hh → Prop} {qs : List Q0}
theorem st_tags {T M S : FSem} (hT : TagsOk T) (hM : MixOk 6 M) (hS : SameOk 4 S) {ps : List Str} {k : Nat} {es : List PyData} (hl : es.length ≤ 12) (he : ∀ e ∈ es, EvD ps k e) (hb : BoxAt t n h) (ht : t + 150000 ≤ 1000000000) {x : CV}
    (f0 : fr[0]? = some (some (.ref n))) (f4 : fr[4]? = some (some x)) (v : Vk n h x (es.flatMap evT)) (f8 : fr[8]? = some (some (.d (.tuple es)))) (hq : ∀ h1, BoxAt (t + 150000) n h1 → R .nx fr h1) :
    gs (sIf (gNot (gTru (gFv S (j6 (gDat (nLst (j6 (gFo T (j6 (j9 8) j7)) (j6 (gFo T (j6 (gFo M (j6 (j9 0) (j6 (j9 8) j7))) j7)) j7)))) (j6 (gBin (gDat (nLst (j6 (gCall (j6 (j9 4) j7) fTuple) j7))) (gL (j8 (.int 2))) fMul2) j7))))) (q6 (sRt (gL (j8 (.bool false)))) sNx) sNx fr h) R := by
  obtain ⟨b, hn, hbx⟩ := hb
  have hl' := (List.getElem?_eq_some_iff.mp hn).1
  obtain ⟨f6, w6⟩ := evs_nw he hl
  have ff := flat_fit he hl
  have t1 := hT (.tuple es) es (by omega) (fun e h => evd_t (he e h)) rfl
  have sm := hS (.list [.tuple (es.flatMap evT), .tuple (es.flatMap evT)]) (DL.fit_of_list (by simp) fun x hx => by
    simp only [List.mem_cons, List.not_mem_nil, or_false, or_self] at hx
    rw [hx]
    exact DL.fit_mono (by omega) ff)
  have m2 : fMul2 (.list [.tuple (es.flatMap evT)]) (.int 2) = some (.list [.tuple (es.flatMap evT), .tuple (es.flatMap evT)]) := mul_list _ 2 (by omega)
  simp only [gs_if, gw_not, gw_tru, gw_fv, gw_cons, gw_dat, gw_lst, gw_fo, gw_var, f8, f0, so_some, gw_nil, slCs, slC_d, refsOf, t1, DL.y6, backC, back1, slC_own hn]
  refine ⟨by simp, by simp, hM t b (.tuple es) _ hbx f6 (by omega) fun y b' hy hf hb' => ?_⟩
  have t2 := hT y es (by omega) (fun e h => evd_t (he e h)) hy
  have vx := v _ (kp_set (o := .lst (b'.map CV.d)))
  simp only [slC_d, so_some, t2, DL.y6, backC, back1, dats, gw_bin, gw_dat, gw_lst, gw_cons, gw_call, gw_var, f4, gw_nil, gw_cst, vws, vx, fTuple, vwd, m2, vws2, vw2_d, List.map_cons, List.map_nil, sm, atomD, DL.truth, Bool.not_true, Bool.false_eq_true, if_false, gs_nx]
  exact ⟨by simp, (show 2 ≤ sizeLine by decide), (show 1 ≤ sizeLine by decide), trivial, hq _ ⟨b', set_at hl', hb'.mono (by omega)⟩⟩
theorem st_last {T S : FSem} (hT : TagsOk T) (hS : SameOk 4 S) (hq : R (.ret (.d (.bool true))) fr h) :
    gs (sRt (gFv S (j6 (gDat (nLst (j6 (gFo T (j6 (gTup j7) j7)) (j6 (gFo T (j6 (gTup (j6 (gTup (j6 (gL (j8 (.str (Str.ofString "quiet")))) j7)) (j6 (gTup (j6 (gL (j8 (.str (Str.ofString "stop")))) j7)) j7))) j7)) j7)))) (j6 (gDat (nLst (j6 (gTup j7) (j6 (gTup j7) j7)))) j7))) fr h) R := by
  have n1 : wS "quiet" ≠ wS "put" := by decide +kernel
  have n2 : wS "stop" ≠ wS "put" := by decide +kernel
  have t1 := hT (.tuple []) [] (by decide) (by simp) rfl
  have t2 := hT (.tuple [.tuple [.str (wS "quiet")], .tuple [.str (wS "stop")]]) [.tuple [.str (wS "quiet")], .tuple [.str (wS "stop")]] (by simp) (fun e he => by
    simp only [List.mem_cons, List.not_mem_nil, or_false] at he
    rcases he with rfl | rfl
    · exact ⟨.inr ⟨_, [], n1, rfl⟩⟩
    · exact ⟨.inr ⟨_, [], n2, rfl⟩⟩) rfl
  simp only [List.flatMap_cons, List.flatMap_nil, evT_other n1, evT_other n2, List.append_nil] at t1 t2
  have sm := hS (.list [.tuple [], .tuple []]) (by decide)
  have tc0 : tupC [] = .d (.tuple []) := rfl
  have tc1 : tupC [CV.d (.str (Str.ofString "quiet"))] = .d (.tuple [.str (wS "quiet")]) := rfl
  have tc2 : tupC [CV.d (.str (Str.ofString "stop"))] = .d (.tuple [.str (wS "stop")]) := rfl
  have tc3 : tupC [CV.d (.tuple [.str (wS "quiet")]), .d (.tuple [.str (wS "stop")])] = .d (.tuple [.tuple [.str (wS "quiet")], .tuple [.str (wS "stop")]]) := rfl
  simp only [gs_rt, gw_fv, gw_cons, gw_dat, gw_lst, gw_fo, gw_tup, gw_nil, gw_cst, tc0, tc1, tc2, tc3, so_some, slCs, slC_d, refsOf, t1, t2, DL.y6, backC, back1, dats, vws2, vw2_d, List.map_cons, List.map_nil, sm, atomD]
  have z0 : 0 ≤ sizeLine := by decide
  have z1 : 1 ≤ sizeLine := by decide
  have z2 : 2 ≤ sizeLine := by decide
  simp [z0, z1, z2, hq]
end
def RightG (G : GSem) : Prop := ∀ (n t : Nat) (h : Hh) (Q : CV → Hh → Prop), BoxAt t n h → t + 1000000 ≤ 1000000000 → (∀ h1, BoxAt (t + 1000000) n h1 → Q (.d (.bool true)) h1) → gw (G [.ref n] h) Q
theorem right_g {T A C L M S W Z P : FSem} {N : FNew} {G : GSem} (hT : TagsOk T) (hA : NameOk A) (hN : NamesOk N) (hC : NamedSetupOk C) (hP : LawLotMk P) (hM4 : MixOk 4 M) (hM6 : MixOk 6 M) (hL : ListsOk 4 L) (hS : SameOk 4 S) (hZ : ScriptOk Z) (hW : RowsOk W) (hG : ChainsOk 4 G) : RightG (r_law_right T A N C P M L S Z W G) := by
  intro n t h Q hb ht hq
  rw [gw_run]
  unfold b_law_right
  have hp : padF 11 [CV.ref n] = [some (.ref n), none, none, none, none, none, none, none, none, none, none] := rfl
  rw [hp]
  refine seqK (fun fr1 h1 => ∃ (sp ro : Int) (ps : List Str) (sl : List (Option Str)), SetupOk 1 sp ro ps sl ∧ fr1 = [some (.ref n), some (.d (mkSetup sp ro ps sl)), none, none, none, none, none, none, none, none, none] ∧ BoxAt (t + 200) n h1) ?_ ?_
  · obtain ⟨b, hn, hbx⟩ := hb
    have hl := (List.getElem?_eq_some_iff.mp hn).1
    simp only [gs_set, gw_fo, gw_cons, gw_var, List.getElem?_cons_zero, so_some, gw_nil, gw_cst, slCs, slC_own hn, slC_d, refsOf]
    refine ⟨by simp, hC t b 1 _ hbx (by omega) (by omega) fun sp ro ps sl b1 hb1 ok => ?_⟩
    simp only [backC, back1]
    exact ⟨sp, ro, ps, sl, ok, rfl, b1, set_at hl, hb1⟩
  · rintro _ h1 ⟨sp, ro, ps, sl, hs, rfl, hb1⟩
    refine seqK (fun fr1 h2 => BoxAt (t + 900000) n h2) ?_ ?_
    · rw [gs_for, gi_rg1, gw_cst]
      simp only [isN, so_some]
      refine ⟨by decide, for_fix (by simp [rgC]) (fun zs fr h1 => ∃ (k : Nat) (a2 a3 a4 a5 a6 a7 a8 a9 a10 : Option CV), k + zs.length = 4 ∧ fr = [some (.ref n), some (.d (mkSetup sp ro ps sl)), a2, a3, a4, a5, a6, a7, a8, a9, a10] ∧ BoxAt (t + 200 + k * 200000) n h1) ⟨0, none, none, none, none, none, none, none, none, none, by simp [rgC, DL.rangeD_length], rfl, by simpa using hb1⟩ ?_ ?_⟩
      · rintro z zs' _ h2 ⟨k, a2, a3, a4, a5, a6, a7, a8, a9, a10, hk, rfl, hb2⟩
        simp only [List.length_cons] at hk
        have bd : bindT (.nm 2) z [some (.ref n), some (.d (mkSetup sp ro ps sl)), a2, a3, a4, a5, a6, a7, a8, a9, a10] = some [some (.ref n), some (.d (mkSetup sp ro ps sl)), some z, a3, a4, a5, a6, a7, a8, a9, a10] := rfl
        rw [bd, so_some]
        refine seqK (fun fr1 h3 => ∃ qs : List Q0, LotG qs ∧ fr1 = [some (.ref n), some (.d (mkSetup sp ro ps sl)), some z, some (.d (lotD qs)), a4, a5, a6, a7, a8, a9, a10] ∧ BoxAt (t + 200 + k * 200000 + 500) n h3) (st_lot hN hA hP hs rfl rfl hb2 (by omega) fun qs h3 gd _ hb3 => ⟨qs, lotG_of gd, rfl, hb3⟩) ?_
        rintro _ h3 ⟨qs, lg, rfl, hb3⟩
        refine seqK (fun fr1 h4 => ∃ y, tupD y = tupD (lotD qs) ∧ fit 1000 4 y = true ∧ fr1 = [some (.ref n), some (.d (mkSetup sp ro ps sl)), some z, some (.d (lotD qs)), some (.d (.list (dueD qs))), some (.d y), some (.d (.str (PyData.shown (lotD qs)))), a7, a8, a9, a10] ∧ BoxAt (t + 200 + k * 200000 + 13500) n h4) (st_mix hW hM4 lg.fit4 lg rfl rfl hb3 (by omega) fun y h4 hy hf _ hb4 => ⟨y, hy, hf, rfl, hb4.mono (by omega)⟩) ?_
        rintro _ h4 ⟨y, hy, hf, rfl, hb4⟩
        refine seqK (fun fr1 h5 => ∃ r0 r1 r2 r3, r1 ≠ n ∧ fr1 = [some (.ref n), some (.d (mkSetup sp ro ps sl)), some z, some (.d (lotD qs)), some (.d (.list (dueD qs))), some (.d y), some (.d (.str (PyData.shown (lotD qs)))), some (.ref r0), a8, a9, a10] ∧ BoxAt (t + 200 + k * 200000 + 13500) n h5 ∧ h5[r0]? = some (.lst [.ref r1, .ref r2, .ref r3]) ∧ h5[r1]? = some (.lst ((dueD qs).map CV.d)) ∧ h5[r2]? = some (.lst ((dueD qs).map CV.d)) ∧ h5[r3]? = some (.lst ((dueD qs).map CV.d))) (st_told hG hL lg hy hf rfl rfl fun h5 r0 r1 r2 r3 e l1 c0 c1 c2 c3 => ⟨r0, r1, r2, r3, by have := hb4.lt; omega, rfl, hb4.ext e, c0, c1, c2, c3⟩) ?_
        rintro _ h5 ⟨r0, r1, r2, r3, rn, rfl, hb5, c0, c1, c2, c3⟩
        refine seqK (fun fr1 h6 => fr1 = [some (.ref n), some (.d (mkSetup sp ro ps sl)), some z, some (.d (lotD qs)), some (.d (.list (dueD qs))), some (.d y), some (.d (.str (PyData.shown (lotD qs)))), some (.ref r0), a8, a9, a10] ∧ h6 = h5) (st_same hS lg rfl rfl rfl rfl c0 c1 c2 c3 ⟨rfl, rfl⟩) ?_
        rintro _ _ ⟨rfl, rfl⟩
        refine seqK (fun fr1 h6 => fr1 = [some (.ref n), some (.d (mkSetup sp ro ps sl)), some z, some (.d (lotD qs)), some (.d (.list (dueD qs))), some (.d y), some (.d (.str (PyData.shown (lotD qs)))), some (.ref r0), a8, a9, a10] ∧ BoxAt (t + 200 + k * 200000 + 13500) n h6) (st_more lg hb5 rn rfl c0 c1 fun h6 hb6 => ⟨rfl, hb6⟩) ?_
        rintro _ h6 ⟨rfl, hb6⟩
        refine seqK (fun fr1 h7 => fr1 = [some (.ref n), some (.d (mkSetup sp ro ps sl)), some z, some (.d (lotD qs)), some (.d (.list (dueD qs))), some (.d y), some (.d (.str (PyData.shown (lotD qs)))), some (.ref r0), a8, a9, a10] ∧ BoxAt (t + 200 + k * 200000 + 13500) n h7) (st_again hG hS lg hb6 rfl rfl fun h7 hb7 => ⟨rfl, hb7⟩) ?_
        rintro _ h7 ⟨rfl, hb7⟩
        refine seqK (fun fr1 h8 => ∃ es, es.length ≤ 12 ∧ (∀ e ∈ es, EvD ps sl.length e) ∧ fr1 = [some (.ref n), some (.d (mkSetup sp ro ps sl)), some z, some (.d (lotD qs)), some (.d (.list (dueD qs))), some (.d y), some (.d (.str (PyData.shown (lotD qs)))), some (.ref r0), some (.d (.tuple es)), a9, a10] ∧ BoxAt (t + 200 + k * 200000 + 16500) n h8) (st_script hZ hs rfl rfl hb7 (by omega) fun es h8 l12 he hb8 => ⟨es, l12, he, rfl, hb8⟩) ?_
        rintro _ h8 ⟨es, l12, he, rfl, hb8⟩
        refine seqK (fun fr1 h9 => ∃ x, Vk n h9 x [] ∧ fr1 = [some (.ref n), some (.d (mkSetup sp ro ps sl)), some z, some (.d (lotD qs)), some x, some (.d y), some (.d (.str (PyData.shown (lotD qs)))), some (.ref r0), some (.d (.tuple es)), a9, a10] ∧ BoxAt (t + 200 + k * 200000 + 16500) n h9) ?_ ?_
        · simp only [gs_set, gw_new, gw_lst, gw_nil]
          exact ⟨by decide, .ref h8.length, fun h' kp => vw_ref (ds := []) (kp.at_ _ _ (by have := hb8.lt; omega) at_end), rfl, hb8.ext ext1⟩
        rintro _ h9 ⟨x, vx, rfl, hb9⟩
        refine seqK (fun fr1 h10 => h10 = h9 ∧ ∃ x a9 a10, Vk n h9 x (es.flatMap evT) ∧ fr1 = [some (.ref n), some (.d (mkSetup sp ro ps sl)), some z, some (.d (lotD qs)), some x, some (.d y), some (.d (.str (PyData.shown (lotD qs)))), some (.ref r0), some (.d (.tuple es)), a9, a10]) (st_due l12 he vx fun x a9 a10 vx => ⟨rfl, x, a9, a10, vx, rfl⟩) ?_
        rintro _ _ ⟨rfl, x, a9, a10, vx, rfl⟩
        rw [gs_seq]
        refine st_tags hT hM6 hS l12 he hb9 (by omega) rfl rfl vx rfl fun h10 hb10 => ?_
        simp only [gs_nx]
        exact ⟨k + 1, _, _, _, _, _, _, _, _, _, by omega, rfl, hb10.mono (by omega)⟩
      · rintro _ h2 ⟨k, a2, a3, a4, a5, a6, a7, a8, a9, a10, hk, rfl, hb2⟩
        exact hb2.mono (by simp only [List.length_nil] at hk; omega)
    · intro fr2 h2 hb2
      rw [gs_seq]
      exact st_last hT hS (hq _ (hb2.mono (by omega)))
end HL
namespace HL
open PySem PySem.Spec GH GW
open DL (FSem FNew fEq fNe fTuple fRepr wo fMul2 fAdd fAll fMin j8 mNeg fit tupD lstD wt Sl)
def LawG (G : GSem) : Prop := ∀ (ns : List Int), ns.length ≤ 63 → gw (G [.scr ns] []) fun x _ => x = .d (.bool true)
theorem law_g {X : FNew} {G : GSem} (hX : BoxOk X) (hG : RightG G) : LawG (r_law X G) := by
  intro ns hns
  rw [gw_run]
  unfold b_law
  have hp : padF 4 [CV.scr ns] = [some (.scr ns), none, none, none] := rfl
  rw [hp]
  refine seqK (fun fr1 h1 => True) ?_ ?_
  · have mn : fMin [.int 3, .int ns.length] = some (.int (if (ns.length : Int) < 3 then (ns.length : Int) else 3)) := rfl
    have ad : ∀ j : Int, fAdd (.int 1) (.int j) = some (.int (1 + j)) := fun j => rfl
    simp only [gs_for, gi_rg1, gw_bin, gw_cst, gw_call, gw_cons, gw_nil, gw_lenS, gw_var, List.getElem?_cons_zero, so_some, scrOf, vws, vwd, mn, ad, isN]
    have b0 : 0 ≤ (if (ns.length : Int) < 3 then (ns.length : Int) else 3) ∧ (if (ns.length : Int) < 3 then (ns.length : Int) else 3) ≤ 3 := by split <;> omega
    generalize (if (ns.length : Int) < 3 then (ns.length : Int) else 3) = c at *
    refine ⟨by omega, for_fix (by simp [rgC]) (fun zs fr h1 => ∃ (a1 a2 a3 : Option CV), fr = [some (.scr ns), a1, a2, a3] ∧ ∀ z ∈ zs, ∃ i : Nat, z = .d (.int i) ∧ i ≤ 63) ⟨none, none, none, rfl, fun z hz => ?_⟩ ?_ ?_⟩
    · unfold rgC DL.rangeD at hz
      rw [List.map_map] at hz
      obtain ⟨i, hi, rfl⟩ := List.mem_map.mp hz
      have := List.mem_range.mp hi
      exact ⟨i, by simp, by omega⟩
    · rintro z zs' _ h1 ⟨a1, a2, a3, rfl, hz⟩
      obtain ⟨i, rfl, hi⟩ := hz z List.mem_cons_self
      have bd : bindT (.nm 1) (.d (.int i)) [some (.scr ns), a1, a2, a3] = some [some (.scr ns), some (.d (.int i)), a2, a3] := rfl
      rw [bd, so_some]
      refine seqK (fun fr1 h2 => ∃ n, fr1 = [some (.scr ns), some (.d (.int i)), some (.ref n), a3] ∧ BoxAt 0 n h2) ?_ ?_
      · simp only [gs_set, gw_new, gw_nfo, gw_cons, gw_var, List.getElem?_cons_zero, List.getElem?_cons_succ, so_some, gw_nil, slCs, slC_scr, slC_d, refsOf]
        refine ⟨by simp, hX ns i _ hi fun b hb => ?_⟩
        simp only [backC, back1]
        exact ⟨_, rfl, b, at_end, hb⟩
      · rintro _ h2 ⟨n, rfl, hb⟩
        rw [gs_seq, gs_if, gw_not, gw_tru, gw_call, gw_cons, gw_dat, gw_lc, gi_rg1, gw_cst]
        simp only [isN, so_some]
        refine ⟨by decide, by decide, lc_fx (by simp [rgC]) (fun zs acc h3 => ∃ k : Nat, k + zs.length = 2 ∧ BoxAt (k * 1000000) n h3 ∧ acc = List.replicate k (CV.d (.bool true))) ⟨0, by simp [rgC, DL.rangeD_length], by simpa using hb, rfl⟩ ?_ ?_⟩
        · rintro z zs acc h3 ⟨k, hk, hb3, rfl⟩
          simp only [List.length_cons] at hk
          have bd2 : bindT (.nm 3) z (wipeF [some (.scr ns), some (.d (.int i)), some (.ref n), a3] (DL.Tg.ix (.nm 3))) = some [some (.scr ns), some (.d (.int i)), some (.ref n), some z] := rfl
          rw [bd2, so_some]
          simp only [tYes, gw_some, if_true, gw_fn, gw_cons, gw_var, List.getElem?_cons_zero, List.getElem?_cons_succ, so_some, gw_nil]
          refine hG n (k * 1000000) h3 _ hb3 (by omega) fun h4 hb4 => ⟨k + 1, by omega, hb4.mono (by omega), ?_⟩
          rw [List.replicate_succ']
        · rintro acc h3 ⟨k, hk, hb3, rfl⟩
          have k2 : k = 2 := by simpa using hk
          subst k2
          simp only [List.replicate, dats, so_some, gw_nil, vws, vwd, fAll, DL.boolsOf, List.all_cons, List.all_nil, id, Bool.and_self, DL.truth, Bool.not_true, Bool.false_eq_true, if_false, gs_nx]
          exact ⟨_, _, _, rfl, fun z hz' => hz z (List.mem_cons_of_mem _ hz')⟩
    · rintro _ h1 _
      trivial
  · intro fr1 h1 _
    simp only [gs_seq, gs_rt, gw_cst]
end HL
namespace K03
open PySem PySem.Spec L2 DL HL
theorem t_take (k : Nat) : TakeOk (sems (k + 1)).law_take := take_ok
theorem t_of (k : Nat) : OfOk (sems (k + 2)).law_of := of_ok (t_take k)
theorem t_ofS (k : Nat) : OfSOk (sems (k + 2)).law_of := ofS_ok (t_take k)
theorem t_ofN (k : Nat) : OfNOk (sems (k + 2)).law_of := ofN_ok (t_take k)
theorem t_name (k : Nat) : NameOk (sems (k + 3)).law_name := name_ok (t_take (k + 1)) (t_of k) (t_ofS k)
theorem t_names (k : Nat) : NamesOk (sems (k + 4)).law_names := names_ok (t_name k)
theorem t_named (k : Nat) : NamedSetupOk (sems (k + 5)).law_named_setup := named_setup_ok (t_take (k + 3)) (t_of (k + 2)) (t_names k)
theorem t_lists : ∀ n k : Nat, ListsOk n (sems (k + n + 1)).law_lists
  | 0, k => lists_ok fun m e => by omega
  | n + 1, k => lists_ok fun m e => by cases e; exact t_lists n k
theorem t_tupled : ∀ n k : Nat, TupledOk n (sems (k + n + 1)).tupled
  | 0, k => tupled_ok fun m e => by omega
  | n + 1, k => tupled_ok fun m e => by cases e; exact t_tupled n k
theorem t_same : ∀ n k : Nat, SameOk n (sems (k + n + 1)).law_same
  | 0, k => same_ok fun m e => by omega
  | n + 1, k => same_ok fun m e => by cases e; exact t_same n k
theorem t_mix : ∀ n k : Nat, MixOk n (sems (k + n + 2)).law_mixed
  | 0, k => mix_ok (t_take k) fun m e => by omega
  | n + 1, k => mix_ok (t_take (k + n + 1)) fun m e => by cases e; exact t_mix n k
theorem t_place (k : Nat) : PlaceOk (sems (k + 3)).law_place := place_ok (t_take (k + 1)) (t_of k)
theorem t_abc (k : Nat) : AbcOk (sems (k + 3)).law_letters := abc_ok (t_take (k + 1)) (t_ofS k)
theorem t_ldeed (k : Nat) : LawDeedOk (sems (k + 4)).law_deed := law_deed_ok (t_take (k + 2)) (t_of (k + 1)) (t_ofN (k + 1)) (t_place k) (t_abc k)
theorem t_ended (k : Nat) : EndedOk (sems (k + 1)).law_ended := ended_ok
theorem t_mk (k : Nat) : LawLotMk (sems (k + 5)).law_lot := lot_mk_ok (t_take (k + 3)) (t_ldeed k) (t_ended (k + 3))
theorem t_event (k : Nat) : EventOk (sems (k + 6)).law_event := event_ok (t_take (k + 4)) (t_of (k + 3)) (t_abc (k + 2)) (t_mk k)
theorem t_script (k : Nat) : ScriptOk (sems (k + 7)).law_named_script := script_ok (t_take (k + 5)) (t_names (k + 2)) (t_mk (k + 1)) (t_event k)
theorem t_tags (k : Nat) : TagsOk (sems (k + 1)).tags := tags_ok
theorem t_rows (k : Nat) : RowsOk (sems (k + 1)).law_rows := rows_ok
theorem t_link (k : Nat) : LinkOk (sems (k + 1)).has_link := link_ok
theorem t_chains (k : Nat) : ChainsOk 4 (sems (k + 6)).chains := chains_ok (t_tupled 4 k) (t_link (k + 4))
theorem t_right (k : Nat) : RightG (sems (k + 9)).law_right := right_g (t_tags (k + 7)) (t_name (k + 5)) (t_names (k + 4)) (t_named (k + 3)) (t_mk (k + 3)) (t_mix 4 (k + 2)) (t_mix 6 k) (t_lists 4 (k + 3)) (t_same 4 (k + 3)) (t_script (k + 1)) (t_rows (k + 7)) (t_chains (k + 2))
theorem t_box (k : Nat) : BoxOk (sems (k + 1)).law_box := box_ok
theorem t_law (k : Nat) : LawG (sems (k + 10)).law := law_g (t_box (k + 8)) (t_right k)
abbrev depth : Nat := 10
theorem plain : ∀ ns : List Int, ns.length ≤ 63 → (∀ z ∈ ns, PySem.Builtin.Int.intBits z ≤ 1048576) → ∃ h', (K03.sems K03.depth).law [.scr ns] ([].map GH.CO.tbl) = some (.d (.bool true), h') := fun ns h _ => by
  obtain ⟨x, h', e, rfl⟩ := t_law 0 ns h
  exact ⟨h', e⟩
end K03
open PySem PySem.W PyProof.Rows
set_option maxRecDepth 100000 in
set_option maxHeartbeats 0 in
theorem PySem.Challenge.cw_endonce_k03_chains_and_tags_holds : PySem.Challenge.rw_endonce_k03_chains_and_tags.Holds := by
  w_on; o_law; k_head; (case hw => w_witness2)
  k_fill
  refine GH.walkH (l := PySem.Challenge.rw_endonce_k03_chains_and_tags) (n := 63) (k := K03.depth) (x := "_law_script") (F := (K03.sems K03.depth).law) [] rfl (by decide) rfl ⟨⟨rfl, by decide, by decide⟩, rfl⟩ (fun w h Y => PySem.W.kIn_of Y) ?F K03.plain
  case F =>
    intro w mg fa h Y KX G hmg
    refine' K03.tab KX G ?a0 ?l0 ?c0 ?k0 ?a1 ?l1 ?c1 ?k1 ?a2 ?l2 ?c2 ?k2 ?a3 ?l3 ?c3 ?k3 ?a4 ?l4 ?c4 ?k4 ?a5 ?l5 ?c5 ?k5 ?a6 ?l6 ?c6 ?k6 ?a7 ?l7 ?c7 ?k7 ?a8 ?l8 ?c8 ?k8 ?a9 ?l9 ?c9 ?k9 ?a10 ?l10 ?c10 ?k10 ?a11 ?l11 ?c11 ?k11 ?a12 ?l12 ?c12 ?k12 ?a13 ?l13 ?c13 ?k13 ?a14 ?l14 ?c14 ?k14 ?a15 ?l15 ?c15 ?k15 ?a16 ?l16 ?c16 ?k16 ?a17 ?l17 ?c17 ?k17 ?a18 ?l18 ?c18 ?k18 ?a19 ?l19 ?c19 ?k19 ?a20 ?l20 ?c20 ?k20 ?a21 ?l21 ?c21 ?k21 ?a22 ?l22 ?c22 ?k22  ?z0 ?z1 ?z2 ?z3 ?z4 ?z5 ?z6 ?z7 ?z8 ?z9 ?z10 ?z11 ?z12 ?z13 ?z14 ?gq0 ?gl0 ?gz0 ?gv0 hmg K03.depth
    (case a0 => k_is); (case l0 => k_is); (case c0 => k_is); (case k0 => k_is)
    (case a1 => k_is); (case l1 => k_is); (case c1 => k_is); (case k1 => k_is)
    (case a2 => k_is); (case l2 => k_is); (case c2 => k_is); (case k2 => k_is)
    (case a3 => k_is); (case l3 => k_is); (case c3 => k_is); (case k3 => k_is)
    (case a4 => k_is); (case l4 => k_is); (case c4 => k_is); (case k4 => k_is)
    (case a5 => k_is); (case l5 => k_is); (case c5 => k_is); (case k5 => k_is)
    (case a6 => k_is); (case l6 => k_is); (case c6 => k_is); (case k6 => k_is)
    (case a7 => k_is); (case l7 => k_is); (case c7 => k_is); (case k7 => k_is)
    (case a8 => k_is); (case l8 => k_is); (case c8 => k_is); (case k8 => k_is)
    (case a9 => k_is); (case l9 => k_is); (case c9 => k_is); (case k9 => k_is)
    (case a10 => k_is); (case l10 => k_is); (case c10 => k_is); (case k10 => k_is)
    (case a11 => k_is); (case l11 => k_is); (case c11 => k_is); (case k11 => k_is)
    (case a12 => k_is); (case l12 => k_is); (case c12 => k_is); (case k12 => k_is)
    (case a13 => k_is); (case l13 => k_is); (case c13 => k_is); (case k13 => k_is)
    (case a14 => k_is); (case l14 => k_is); (case c14 => k_is); (case k14 => k_is)
    (case a15 => k_is); (case l15 => k_is); (case c15 => k_is); (case k15 => k_is)
    (case a16 => k_is); (case l16 => k_is); (case c16 => k_is); (case k16 => k_is)
    (case a17 => k_is); (case l17 => k_is); (case c17 => k_is); (case k17 => k_is)
    (case a18 => k_is); (case l18 => k_is); (case c18 => k_is); (case k18 => k_is)
    (case a19 => k_is); (case l19 => k_is); (case c19 => k_is); (case k19 => k_is)
    (case a20 => k_is); (case l20 => k_is); (case c20 => k_is); (case k20 => k_is)
    (case a21 => k_is); (case l21 => k_is); (case c21 => k_is); (case k21 => k_is)
    (case a22 => k_is); (case l22 => k_is); (case c22 => k_is); (case k22 => k_is)
    (case z0 => k_is); (case z1 => k_is); (case z2 => k_is); (case z3 => k_is); (case z4 => k_is); (case z5 => k_is); (case z6 => k_is); (case z7 => k_is); (case z8 => k_is); (case z9 => k_is); (case z10 => k_is); (case z11 => k_is); (case z12 => k_is); (case z13 => k_is); (case z14 => k_is)
    (case gq0 => k_is); (case gl0 => k_is); (case gz0 => exact by decide); (case gv0 => exact .cons ⟨_, rfl⟩ (.cons ⟨_, rfl⟩ (.nil)))
