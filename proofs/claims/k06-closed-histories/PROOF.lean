import PyProof.Rows.All
import Wide.All
import OpenK.AllK
import Wide.FinOn
import HandS.ForMost
import HandS.IsInst
import HandS.TupAny
import HandS.TupMul
import HandS.Style
import HandS.Flow
import HandS.Deep
import HandS.Zip
import KE.GoesNew
import KE.GoesMore
import KE.GoesEnum
import HandS.EndBits
import PySem.Challenge.RW_endonce_k06_closed_histories
set_option Elab.async false
set_option linter.all false
set_option maxRecDepth 100000
set_option maxHeartbeats 4000000
namespace DL
open PySem PySem.Spec L2
abbrev D := PyData

/-! ### the strongest readings -/
def UE (X : Cx) (e : Expr) : TE := fun sg H Q => ∀ pins s, Inv X pins sg H s → wpAny (model X.prog X.w) X.A (eval e X.env) (EP X pins sg Q) X.xe s
theorem UE.pe {X : Cx} {e : Expr} : PE X e (UE X e) := ⟨fun pins s _ _ _ I h => h pins s I⟩
theorem UE.of {X : Cx} {e : Expr} {t : TE} {sg H Q} (h : PE X e t) (q : t sg H Q) : UE X e sg H Q := fun pins s I => h.run pins s sg H Q I q
def UT (X : Cx) (e : Expr) : TT := fun sg H Q => ∀ pins s, Inv X pins sg H s → wpAny (model X.prog X.w) X.A (isTrue e X.env (eval e X.env)) (TP X pins sg Q) X.xe s
theorem UT.pt {X : Cx} {e : Expr} : PT X e (UT X e) := ⟨fun pins s _ _ _ I h => h pins s I⟩
theorem UT.of {X : Cx} {e : Expr} {t : TT} {sg H Q} (h : PT X e t) (q : t sg H Q) : UT X e sg H Q := fun pins s I => h.run pins s sg H Q I q
def UA (X : Cx) (es : List Expr) : TA := fun sg H Q => ∀ pos pins s, Inv X pins sg H s → wpAny (model X.prog X.w) X.A (spliced (backTo pos (starEach es X.env))) (AP X pins sg Q) X.xe s
theorem UA.pa {X : Cx} {es : List Expr} : PA X es (UA X es) := ⟨fun pos pins s _ _ _ I h => h pos pins s I⟩
theorem UA.of {X : Cx} {es : List Expr} {t : TA} {sg H Q} (h : PA X es t) (q : t sg H Q) : UA X es sg H Q := fun pos pins s I => h.run pos pins s sg H Q I q
def US (X : Cx) (st : Stmt) : TS := fun D sg H => ∀ pins s, Inv X pins sg H s → wpAny (model X.prog X.w) X.A (exec st X.env) (SP X pins D) X.xe s
theorem US.ps {X : Cx} {st : Stmt} : PS X st (US X st) := ⟨fun pins s _ _ _ I h => h pins s I⟩
theorem US.of {X : Cx} {st : Stmt} {t : TS} {sg H D} (h : PS X st t) (q : t D sg H) : US X st D sg H := fun pins s I => h.run pins s sg H D I q
def USs (X : Cx) (st : List Stmt) : TS := fun D sg H => ∀ pins s, Inv X pins sg H s → wpAny (model X.prog X.w) X.A (execs st X.env) (SP X pins D) X.xe s
theorem USs.pss {X : Cx} {st : List Stmt} : PSs X st (USs X st) := ⟨fun pins s _ _ _ I h => h pins s I⟩
theorem USs.of {X : Cx} {st : List Stmt} {t : TS} {sg H D} (h : PSs X st t) (q : t D sg H) : USs X st D sg H := fun pins s I => h.run pins s sg H D I q
def UG (X : Cx) (tg : Expr) : TG := fun v sg H Q => ∀ pins s u, Inv X pins sg H s → RelV v u → wpAny (model X.prog X.w) X.A (assign tg X.env u) (fun _ s' => ∃ sg' H', Inv X pins sg' H' s' ∧ Q sg' H') X.xe s
theorem UG.pg {X : Cx} {tg : Expr} : PG X tg (UG X tg) := ⟨fun pins s _ _ _ u _ I r h => h pins s u I r⟩
theorem UG.of {X : Cx} {tg : Expr} {t : TG} {v sg H Q} (h : PG X tg t) (q : t v sg H Q) : UG X tg v sg H Q := fun pins s u I r => h.run pins s sg H v u Q I r q
def UI (X : Cx) (tg it : Expr) : TI := fun sg H R => ∀ pins s, Inv X pins sg H s → wpAny (model X.prog X.w) X.A (eval it X.env) (fun v s1 => wpAny (model X.prog X.w) X.A (pyIter v) (PIE X pins sg tg R) X.xe s1) X.xe s
theorem UI.pi {X : Cx} {tg it : Expr} : PI X tg it (UI X tg it) := ⟨fun pins s _ _ _ I h => h pins s I⟩
theorem UI.of {X : Cx} {tg it : Expr} {t : TI} {sg H R} (h : PI X tg it t) (q : t sg H R) : UI X tg it sg H R := fun pins s I => h.run pins s sg H R I q

/-- an operator, a call, a method, a subscript: any rule that serves -/
def opB (X : Cx) (f : Value → Value → Sem Value) : R2 := fun x y H Q => ∃ r, OpR X f r ∧ r x y H Q
theorem opB_ok {X : Cx} {f : Value → Value → Sem Value} : OpR X f (opB X f) := by
  intro pins s sg H x y v u Q I rx ry h
  obtain ⟨r, hr, h⟩ := h
  exact hr pins s sg H x y v u Q I rx ry h
def caB (X : Cx) (f : Value) : List V → Hp → VK → Prop := fun xs H Q => ∃ r, CallR X f r ∧ r xs H Q
theorem caB_ok {X : Cx} {f : Value} : CallR X f (caB X f) := by
  intro pins s sg H xs us Q I rx h
  obtain ⟨r, hr, h⟩ := h
  exact hr pins s sg H xs us Q I rx h
def ixB (X : Cx) : R2 := fun x y H Q => ∃ r, IxR X r ∧ r x y H Q
theorem ixB_ok {X : Cx} : IxR X (ixB X) := by
  intro b hb pins s sg H x y v u Q I rx ry h
  obtain ⟨r, hr, h⟩ := h
  exact hr b hb pins s sg H x y v u Q I rx ry h

/-! ### data in the heap -/
def KT (K : PySem.W.Frag) (a : Addr) (xs : List V) : Prop :=
  ∃ (o : Obj) (its : Array Value) (n : Nat), K.lookup a = some o ∧ o.cls = .type "tuple" ∧ o.data = .seq its n ∧ its.size ≤ sizeLine ∧ Vals xs its.toList
mutual
inductive Rep (K : PySem.W.Frag) (L : Addr → Prop) (H : Hp) : V → D → Prop
  | non : Rep K L H .non .none
  | bl (b : Bool) : Rep K L H (.bl b) (.bool b)
  | int (i : Int) : Rep K L H (.int i) (.int i)
  | str (x : Str) (h : PyData.strOk x = true) : Rep K L H (.str x) (.str x)
  | lst {a : Addr} {xs : List V} {ds : List D} : H a = some (.lst xs) → ¬ L a → RepL K L H xs ds → Rep K L H (.ref a) (.list ds)
  | tup {a : Addr} {xs : List V} {ds : List D} : H a = some (.tup xs) → ¬ L a → RepL K L H xs ds → Rep K L H (.ref a) (.tuple ds)
  | ktup {a : Addr} {xs : List V} {ds : List D} : KT K a xs → RepL K L H xs ds → Rep K L H (.ref a) (.tuple ds)
inductive RepL (K : PySem.W.Frag) (L : Addr → Prop) (H : Hp) : List V → List D → Prop
  | nil : RepL K L H [] []
  | cons {v : V} {vs : List V} {d : D} {ds : List D} : Rep K L H v d → RepL K L H vs ds → RepL K L H (v :: vs) (d :: ds)
end
/-- what stands apart from L in H stands apart from L' in H' -/
def Later (L : Addr → Prop) (H : Hp) (L' : Addr → Prop) (H' : Hp) : Prop := ∀ a o, H a = some o → ¬ L a → H' a = some o ∧ ¬ L' a
theorem Later.refl {L : Addr → Prop} {H : Hp} : Later L H L H := fun _ _ h n => ⟨h, n⟩
theorem Later.trans {L L1 L2 : Addr → Prop} {H H1 H2 : Hp} (a : Later L H L1 H1) (b : Later L1 H1 L2 H2) : Later L H L2 H2 := fun c o h n => b c o (a c o h n).1 (a c o h n).2
section
variable {K : PySem.W.Frag} {L L' : Addr → Prop} {H H' : Hp}
mutual
theorem Rep.mono (m : Later L H L' H') : ∀ {v : V} {d : D}, Rep K L H v d → Rep K L' H' v d
  | _, _, .non => .non
  | _, _, .bl b => .bl b
  | _, _, .int i => .int i
  | _, _, .str x h => .str x h
  | _, _, .lst h n r => .lst (m _ _ h n).1 (m _ _ h n).2 (RepL.mono m r)
  | _, _, .tup h n r => .tup (m _ _ h n).1 (m _ _ h n).2 (RepL.mono m r)
  | _, _, .ktup h r => .ktup h (RepL.mono m r)
theorem RepL.mono (m : Later L H L' H') : ∀ {v : List V} {d : List D}, RepL K L H v d → RepL K L' H' v d
  | _, _, .nil => .nil
  | _, _, .cons r t => .cons (Rep.mono m r) (RepL.mono m t)
end
mutual
theorem Rep.dp : ∀ {v : V} {d : D}, Rep K L H v d → Dp K H v d
  | _, _, .non => .non
  | _, _, .bl b => .bl b
  | _, _, .int i => .int i
  | _, _, .str x _ => .str x
  | _, _, .lst h _ r => .lst (SqL.of h) (RepL.dp r)
  | _, _, .tup h _ r => .tup (SqT.of h) (RepL.dp r)
  | _, _, .ktup h r => .tup (.inr h) (RepL.dp r)
theorem RepL.dp : ∀ {v : List V} {d : List D}, RepL K L H v d → DpAll K H v d
  | _, _, .nil => .nil
  | _, _, .cons r t => .cons (Rep.dp r) (RepL.dp t)
end
mutual
theorem Rep.lay : ∀ {v : V} {d : D}, Rep K L H v d → d.canLay0 = true
  | _, _, .non => rfl
  | _, _, .bl b => rfl
  | _, _, .int i => rfl
  | _, _, .str x h => h
  | _, _, .lst h _ r => RepL.lay r
  | _, _, .tup h _ r => RepL.lay r
  | _, _, .ktup h r => RepL.lay r
theorem RepL.lay : ∀ {v : List V} {d : List D}, RepL K L H v d → PyData.canLayAll0 d = true
  | _, _, .nil => rfl
  | _, _, .cons r t => by
    show (_ && _) = true
    rw [Rep.lay r, RepL.lay t]
    rfl
end
theorem RepL.length : ∀ {v : List V} {d : List D}, RepL K L H v d → v.length = d.length
  | _, _, .nil => rfl
  | _, _, .cons _ t => congrArg (· + 1) (RepL.length t)
theorem RepL.get : ∀ {v : List V} {d : List D} {i : Nat} {x : D}, RepL K L H v d → d[i]? = some x → ∃ u, v[i]? = some u ∧ Rep K L H u x
  | _, _, i, x, .nil, e => by simp at e
  | _, _, 0, x, .cons r _, e => by simp at e; subst e; exact ⟨_, rfl, r⟩
  | _, _, i + 1, x, .cons _ t, e => by
    obtain ⟨u, h1, h2⟩ := RepL.get (i := i) (x := x) t (by simpa using e)
    exact ⟨u, by simpa using h1, h2⟩
theorem RepL.append : ∀ {v v' : List V} {d d' : List D}, RepL K L H v d → RepL K L H v' d' → RepL K L H (v ++ v') (d ++ d')
  | _, _, _, _, .nil, s => s
  | _, _, _, _, .cons r t, s => .cons r (RepL.append t s)
theorem RepL.take : ∀ {v : List V} {d : List D} (n : Nat), RepL K L H v d → RepL K L H (v.take n) (d.take n)
  | _, _, 0, _ => .nil
  | _, _, _ + 1, .nil => .nil
  | _, _, n + 1, .cons r t => .cons r (RepL.take n t)
theorem RepL.drop : ∀ {v : List V} {d : List D} (n : Nat), RepL K L H v d → RepL K L H (v.drop n) (d.drop n)
  | _, _, 0, r => r
  | _, _, _ + 1, .nil => .nil
  | _, _, n + 1, .cons _ t => RepL.drop n t
theorem RepL.set {v : V} {d : D} (r : Rep K L H v d) : ∀ {vs : List V} {ds : List D} (i : Nat), RepL K L H vs ds → RepL K L H (vs.set i v) (ds.set i d)
  | _, _, _, .nil => .nil
  | _, _, 0, .cons _ t => .cons r t
  | _, _, i + 1, .cons q t => .cons q (RepL.set r i t)
theorem RepL.eraseIdx : ∀ {vs : List V} {ds : List D} (i : Nat), RepL K L H vs ds → RepL K L H (vs.eraseIdx i) (ds.eraseIdx i)
  | _, _, _, .nil => .nil
  | _, _, 0, .cons _ t => t
  | _, _, i + 1, .cons q t => .cons q (RepL.eraseIdx i t)
theorem RepL.reverse : ∀ {vs : List V} {ds : List D}, RepL K L H vs ds → RepL K L H vs.reverse ds.reverse
  | _, _, .nil => .nil
  | _, _, .cons r t => by rw [List.reverse_cons, List.reverse_cons]; exact (RepL.reverse t).append (.cons r .nil)
theorem RepL.rep {vs : List V} {ds : List D} (r : RepL K L H vs ds) : ∀ n : Nat, RepL K L H (List.replicate n vs).flatten (List.replicate n ds).flatten
  | 0 => .nil
  | n + 1 => by rw [List.replicate_succ, List.replicate_succ, List.flatten_cons, List.flatten_cons]; exact r.append (RepL.rep r n)
theorem RepL.one {v : V} {ds : List D} (r : RepL K L H [v] ds) : ∃ d, ds = [d] ∧ Rep K L H v d := by
  cases r with | cons r t => cases t; exact ⟨_, rfl, r⟩
end

/-! ### a frame: its slots -/
inductive Sl where
  | d (x : D) | own (xs : List D) | scr (ns : List Int)
abbrev Env := List (Option Sl)
def OwnA (sg : St) (r : Env) (a : Addr) : Prop := ∃ (i : Nat) (xs : List D), r[i]? = some (some (Sl.own xs)) ∧ sg[i]? = some (some (V.ref a))
def Lv (P : Addr → Prop) (sg : St) (r : Env) (a : Addr) : Prop := P a ∨ OwnA sg r a
/-- a list of the written part -/
def KL (K : PySem.W.Frag) (a : Addr) (xs : List V) : Prop := ∃ (o : Obj) (its : Array Value) (n : Nat), K.lookup a = some o ∧ o.cls = .type "list" ∧ o.dict = none ∧ o.data = .seq its n ∧ its.size ≤ sizeLine ∧ Vals xs its.toList
/-- where the script lies -/
def ScrAt (K : PySem.W.Frag) (P : Addr → Prop) (H : Hp) (a : Addr) (ns : List Int) : Prop := (∃ o, H a = some (.frz o (.lst (ns.map V.int))) ∧ ¬ P a) ∨ KL K a (ns.map V.int)
theorem ScrAt.map {K : PySem.W.Frag} {P P' : Addr → Prop} {H H' : Hp} {a : Addr} {ns : List Int} (h : ScrAt K P H a ns) (f : ∀ o, H a = some (.frz o (.lst (ns.map V.int))) → ¬ P a → H' a = some (.frz o (.lst (ns.map V.int))) ∧ ¬ P' a) : ScrAt K P' H' a ns :=
  h.elim (fun ⟨o, h1, h2⟩ => .inl ⟨o, (f o h1 h2).1, (f o h1 h2).2⟩) .inr
theorem ScrAt.sq {K : PySem.W.Frag} {P : Addr → Prop} {H : Hp} {a : Addr} {ns : List Int} (h : ScrAt K P H a ns) : SqL K H a (ns.map V.int) := h.elim (fun ⟨o, h1, _⟩ => .inl (.inr ⟨o, h1⟩)) .inr
structure Sim (K : PySem.W.Frag) (P : Addr → Prop) (sg : St) (H : Hp) (r : Env) : Prop where
  len : sg.length = r.length
  dat : ∀ (i : Nat) x, r[i]? = some (some (.d x)) → ∃ v, sg[i]? = some (some v) ∧ Rep K (Lv P sg r) H v x
  own : ∀ (i : Nat) xs, r[i]? = some (some (.own xs)) → ∃ a vs, sg[i]? = some (some (.ref a)) ∧ H a = some (.lst vs) ∧ RepL K (Lv P sg r) H vs xs
  scr : ∀ (i : Nat) ns, r[i]? = some (some (.scr ns)) → ∃ a, sg[i]? = some (some (.ref a)) ∧ ScrAt K P H a ns
  prot : ∀ a, P a → ∃ o, H a = some o
  sep : ∀ (i j : Nat) xs ys a, r[i]? = some (some (.own xs)) → r[j]? = some (some (.own ys)) → sg[i]? = some (some (.ref a)) → sg[j]? = some (some (.ref a)) → i = j
  nP : ∀ a, OwnA sg r a → ¬ P a
/-- behind an expression -/
structure Ext (K : PySem.W.Frag) (P : Addr → Prop) (sg : St) (r : Env) (H : Hp) (r' : Env) (H' : Hp) : Prop where
  sim : Sim K P sg H' r'
  shape : ∀ i : Nat, (∃ xs, r'[i]? = some (some (Sl.own xs))) ↔ ∃ xs, r[i]? = some (some (Sl.own xs))
  keep : ∀ a o, H a = some o → ¬ OwnA sg r a → H' a = some o
section
variable {K : PySem.W.Frag} {P : Addr → Prop} {sg : St} {r r' r1 r2 : Env} {H H' H1 H2 : Hp}
theorem Sim.lv (S : Sim K P sg H r) : ∀ a, Lv P sg r a → ∃ o, H a = some o := fun a h => by
  rcases h with h | ⟨i, xs, h1, h2⟩
  · exact S.prot a h
  · obtain ⟨b, vs, e, q, _⟩ := S.own i xs h1
    rw [h2] at e; cases e; exact ⟨_, q⟩
theorem Ext.own (E : Ext K P sg r H r' H') (a : Addr) : OwnA sg r' a ↔ OwnA sg r a := by
  constructor
  · rintro ⟨i, xs, h1, h2⟩
    obtain ⟨ys, h⟩ := (E.shape i).mp ⟨xs, h1⟩
    exact ⟨i, ys, h, h2⟩
  · rintro ⟨i, xs, h1, h2⟩
    obtain ⟨ys, h⟩ := (E.shape i).mpr ⟨xs, h1⟩
    exact ⟨i, ys, h, h2⟩
theorem Ext.refl (S : Sim K P sg H r) : Ext K P sg r H r H := ⟨S, fun _ => Iff.rfl, fun _ _ h _ => h⟩
theorem Ext.trans (a : Ext K P sg r H r1 H1) (b : Ext K P sg r1 H1 r2 H2) : Ext K P sg r H r2 H2 :=
  ⟨b.sim, fun c => (b.shape c).trans (a.shape c), fun c o h n => b.keep c o (a.keep c o h n) fun z => n ((a.own c).mp z)⟩
theorem Ext.later (E : Ext K P sg r H r' H') : Later (Lv P sg r) H (Lv P sg r') H' := fun a o h n =>
  ⟨E.keep a o h fun z => n (.inr z), fun z => n (z.elim .inl fun z => .inr ((E.own a).mp z))⟩
theorem Ext.rep (E : Ext K P sg r H r' H') {v : V} {d : D} (h : Rep K (Lv P sg r) H v d) : Rep K (Lv P sg r') H' v d := h.mono E.later
theorem Ext.repL (E : Ext K P sg r H r' H') {v : List V} {d : List D} (h : RepL K (Lv P sg r) H v d) : RepL K (Lv P sg r') H' v d := h.mono E.later
/-- the heap has grown -/
theorem Sim.grow (S : Sim K P sg H r) (g : ∀ a o, H a = some o → H' a = some o) : Ext K P sg r H r H' := by
  have la : Later (Lv P sg r) H (Lv P sg r) H' := fun a o h n => ⟨g a o h, n⟩
  refine ⟨⟨S.len, fun i x e => ?_, fun i xs e => ?_, fun i ns e => ?_, fun a h => ?_, S.sep, S.nP⟩, fun _ => Iff.rfl, fun a o h _ => g a o h⟩
  · obtain ⟨v, h1, h2⟩ := S.dat i x e; exact ⟨v, h1, h2.mono la⟩
  · obtain ⟨a, vs, h1, h2, h3⟩ := S.own i xs e; exact ⟨a, vs, h1, g _ _ h2, h3.mono la⟩
  · obtain ⟨a, h1, h2⟩ := S.scr i ns e; exact ⟨a, h1, h2.map fun o h2 h3 => ⟨g _ _ h2, h3⟩⟩
  · obtain ⟨o, h⟩ := S.prot a h; exact ⟨o, g _ _ h⟩
theorem upd_grow {p : Addr} {o : HO} (h : H p = none) : ∀ a u, H a = some u → upd H p o a = some u := fun a u e => by
  rw [upd_ne (ne_of_none e h)]; exact e
theorem Sim.new (S : Sim K P sg H r) {p : Addr} (o : HO) (h : H p = none) : Ext K P sg r H r (upd H p o) := S.grow (upd_grow h)
theorem Sim.fresh (S : Sim K P sg H r) {p : Addr} (h : H p = none) : ¬ Lv P sg r p := fun z => by
  obtain ⟨o, e⟩ := S.lv p z
  rw [h] at e; cases e
theorem Sim.newTup (S : Sim K P sg H r) {p : Addr} {vs : List V} {ds : List D} (h : H p = none) (q : RepL K (Lv P sg r) H vs ds) : Rep K (Lv P sg r) (upd H p (.tup vs)) (.ref p) (.tuple ds) :=
  .tup upd_same (S.fresh h) ((S.new (.tup vs) h).repL q)
theorem Sim.newLst (S : Sim K P sg H r) {p : Addr} {vs : List V} {ds : List D} (h : H p = none) (q : RepL K (Lv P sg r) H vs ds) : Rep K (Lv P sg r) (upd H p (.lst vs)) (.ref p) (.list ds) :=
  .lst upd_same (S.fresh h) ((S.new (.lst vs) h).repL q)
end
end DL

namespace DL
open PySem PySem.Spec L2

/-! ### judgements -/
abbrev SE := Env → Option (D × Env)
def OkE (X : Cx) (e : Expr) (m : SE) : Prop := ∀ (P : Addr → Prop) (sg : St) (H : Hp) (r : Env) (Q : VK) (d : D) (r' : Env), Sim X.K P sg H r → m r = some (d, r') →
  (∀ v H', Ext X.K P sg r H r' H' → Rep X.K (Lv P sg r') H' v d → Q v H') → UE X e sg H Q
/-- a list that is read: one's own, or data -/
inductive Bor (s : Bool) (K : PySem.W.Frag) (L : Addr → Prop) (H : Hp) : V → D → Prop
  | rep {v : V} {d : D} : Rep K L H v d → Bor s K L H v d
  | own {a : Addr} {xs : List V} {ds : List D} : H a = some (.lst xs) → RepL K L H xs ds → Bor s K L H (.ref a) (.list ds)
  | scr {a : Addr} {ns : List Int} : s = true → ScrAt K (fun _ => False) H a ns → Bor s K L H (.ref a) (.list (ns.map PyData.int))
def OkB (s : Bool) (X : Cx) (e : Expr) (m : SE) : Prop := ∀ (P : Addr → Prop) (sg : St) (H : Hp) (r : Env) (Q : VK) (d : D) (r' : Env), Sim X.K P sg H r → m r = some (d, r') →
  (∀ v H', Ext X.K P sg r H r' H' → Bor s X.K (Lv P sg r') H' v d → Q v H') → UE X e sg H Q
abbrev With (P : Addr → Prop) (p : Addr) : Addr → Prop := fun a => P a ∨ a = p
/-- a new list that nobody else holds -/
structure NewL (K : PySem.W.Frag) (P : Addr → Prop) (sg : St) (r : Env) (H : Hp) (r' : Env) (H' : Hp) (p : Addr) (vs : List V) (ds : List D) : Prop where
  ext : Ext K P sg r H r' H'
  sim : Sim K (With P p) sg H' r'
  new : H p = none
  here : H' p = some (.lst vs)
  rep : RepL K (Lv (With P p) sg r') H' vs ds
/-- by any reading T -/
def OkNT (K : PySem.W.Frag) (T : TE) (m : Env → Option (List D × Env)) : Prop := ∀ (P : Addr → Prop) (sg : St) (H : Hp) (r : Env) (Q : VK) (ds : List D) (r' : Env), Sim K P sg H r → m r = some (ds, r') →
  (∀ p vs H', NewL K P sg r H r' H' p vs ds → Q (.ref p) H') → T sg H Q
abbrev OkN (X : Cx) (e : Expr) (m : Env → Option (List D × Env)) : Prop := OkNT X.K (UE X e) m
def OkET (K : PySem.W.Frag) (T : TE) (m : SE) : Prop := ∀ (P : Addr → Prop) (sg : St) (H : Hp) (r : Env) (Q : VK) (d : D) (r' : Env), Sim K P sg H r → m r = some (d, r') →
  (∀ v H', Ext K P sg r H r' H' → Rep K (Lv P sg r') H' v d → Q v H') → T sg H Q
abbrev ST := Env → Option (Bool × Env)
def OkT (X : Cx) (e : Expr) (m : ST) : Prop := ∀ (P : Addr → Prop) (sg : St) (H : Hp) (r : Env) (Q : Bool → Hp → Prop) (b : Bool) (r' : Env), Sim X.K P sg H r → m r = some (b, r') →
  (∀ H', Ext X.K P sg r H r' H' → Q b H') → UT X e sg H Q
abbrev SA := Env → Option (List D × Env)
def OkA (X : Cx) (es : List Expr) (m : SA) : Prop := ∀ (P : Addr → Prop) (sg : St) (H : Hp) (r : Env) (Q : List V → Hp → Prop) (ds : List D) (r' : Env), Sim X.K P sg H r → m r = some (ds, r') →
  (∀ vs H', Ext X.K P sg r H r' H' → RepL X.K (Lv P sg r') H' vs ds → Q vs H') → UA X es sg H Q

section
variable {s : Bool} {K : PySem.W.Frag} {L L' : Addr → Prop} {H H' : Hp} {v : V} {d : D}
theorem repL_ints : ∀ ns : List Int, RepL K L H (ns.map V.int) (ns.map PyData.int)
  | [] => .nil
  | n :: r => .cons (.int n) (repL_ints r)
theorem Bor.list {ds : List D} (h : Bor s K L H v (.list ds)) : ∃ a xs, v = .ref a ∧ SqL K H a xs ∧ RepL K L H xs ds ∧ (s = false → H a = some (.lst xs)) := by
  generalize e : PyData.list ds = z at h
  cases h with
  | rep h =>
    subst e
    cases h with | lst h n r => exact ⟨_, _, rfl, SqL.of h, r, fun _ => h⟩
  | own h r => cases e; exact ⟨_, _, rfl, SqL.of h, r, fun _ => h⟩
  | scr hs h => cases e; exact ⟨_, _, rfl, h.sq, repL_ints _, fun z => by rw [hs] at z; cases z⟩
theorem Rep.tuple {ds : List D} (h : Rep K L H v (.tuple ds)) : ∃ a xs, v = .ref a ∧ SqT K H a xs ∧ RepL K L H xs ds := by
  cases h with
  | tup h n r => exact ⟨_, _, rfl, SqT.of h, r⟩
  | ktup h r => exact ⟨_, _, rfl, .inr h, r⟩
theorem Bor.tuple {ds : List D} (h : Bor s K L H v (.tuple ds)) : ∃ a xs, v = .ref a ∧ SqT K H a xs ∧ RepL K L H xs ds := by
  cases h with
  | rep h => exact h.tuple
theorem Bor.toRep (h : Bor s K L H v d) (hd : ∀ ds, d ≠ .list ds) : Rep K L H v d := by
  cases h with
  | rep h => exact h
  | own => exact absurd rfl (hd _)
  | scr => exact absurd rfl (hd _)
theorem repL_dp_ints : ∀ ns : List Int, DpAll K H (ns.map V.int) (ns.map PyData.int)
  | [] => .nil
  | n :: r => .cons (.int n) (repL_dp_ints r)
theorem Bor.dp (h : Bor s K L H v d) : Dp K H v d := by
  cases h with
  | rep h => exact h.dp
  | own h r => exact .lst (SqL.of h) r.dp
  | scr _ h => exact .lst h.sq (repL_dp_ints _)
theorem canLay_ints : ∀ ns : List Int, PyData.canLayAll0 (ns.map PyData.int) = true
  | [] => rfl
  | n :: r => by show (_ && _) = true; rw [canLay_ints r]; rfl
theorem Bor.lay (h : Bor s K L H v d) : d.canLay0 = true := by
  cases h with
  | rep h => exact h.lay
  | own _ r => exact r.lay
  | scr => exact canLay_ints _
theorem Bor.mono (m : Later L H L' H') (g : ∀ a o, H a = some o → L a → H' a = some o) (h : Bor s K L H v d) : Bor s K L' H' v d := by
  have g' : ∀ a o, H a = some o → H' a = some o := fun a o e => by
    by_cases z : L a
    · exact g a o e z
    · exact (m a o e z).1
  cases h with
  | rep h => exact .rep (h.mono m)
  | own h r => exact .own (g' _ _ h) (r.mono m)
  | scr hs h => exact .scr hs (h.map fun o h2 h3 => ⟨g' _ _ h2, h3⟩)
end

theorem Ext.none {K : PySem.W.Frag} {P : Addr → Prop} {sg : St} {r r' : Env} {H H' : Hp} (E : Ext K P sg r H r' H') {p : Addr} (h : H' p = Option.none) : H p = Option.none := by
  cases z : H p with
  | none => rfl
  | some o =>
    by_cases ow : OwnA sg r p
    · obtain ⟨o', z'⟩ := E.sim.lv p (.inr ((E.own p).mpr ow))
      rw [h] at z'; cases z'
    · have := E.keep p o z ow
      rw [h] at this; cases this
section
variable {K : PySem.W.Frag} {P : Addr → Prop} {sg sg' : St} {r r' : Env} {H H' : Hp}
/-- one more is protected -/
theorem Sim.guard (S : Sim K P sg H r) {p : Addr} (hp : H p = none) (o : HO) : Sim K (With P p) sg (upd H p o) r ∧ Later (Lv P sg r) H (Lv (With P p) sg r) (upd H p o) := by
  have la : Later (Lv P sg r) H (Lv (With P p) sg r) (upd H p o) := fun a u h n =>
    ⟨by rw [upd_ne (ne_of_none h hp)]; exact h, fun z => z.elim (fun z => z.elim (fun z => n (.inl z)) fun z => ne_of_none h hp z) fun z => n (.inr z)⟩
  refine ⟨⟨S.len, fun i x e => ?_, fun i x e => ?_, fun i x e => ?_, fun a h => ?_, S.sep, fun a ow z => ?_⟩, la⟩
  · obtain ⟨v, h1, h2⟩ := S.dat i x e
    exact ⟨v, h1, h2.mono la⟩
  · obtain ⟨a, vs, h1, h2, h3⟩ := S.own i x e
    exact ⟨a, vs, h1, by rw [upd_ne (ne_of_none h2 hp)]; exact h2, h3.mono la⟩
  · obtain ⟨a, h1, h2⟩ := S.scr i x e
    exact ⟨a, h1, h2.map fun u h2 h3 => ⟨by rw [upd_ne (ne_of_none h2 hp)]; exact h2, fun z => z.elim h3 (ne_of_none h2 hp)⟩⟩
  · rcases h with h | h
    · obtain ⟨u, e⟩ := S.prot a h
      exact ⟨u, by rw [upd_ne (ne_of_none e hp)]; exact e⟩
    · rw [h, upd_same]; exact ⟨_, rfl⟩
  · rcases z with z | z
    · exact S.nP a ow z
    · obtain ⟨u, e⟩ := S.lv a (.inr ow)
      exact ne_of_none e hp z
theorem Ext.newL (E : Ext K P sg r H r' H') {p : Addr} {vs : List V} {ds : List D} (hp : H' p = Option.none) (q : RepL K (Lv P sg r') H' vs ds) : NewL K P sg r H r' (upd H' p (.lst vs)) p vs ds :=
  ⟨E.trans (E.sim.new _ hp), (E.sim.guard hp _).1, E.none hp, upd_same, q.mono (E.sim.guard hp _).2⟩
end
section
variable {X : Cx} {e a b : Expr} {pos : Pos}
theorem OkE.bor {m : SE} {s : Bool} (h : OkE X e m) : OkB s X e m := fun P sg H r Q d r' S hm hq => h P sg H r Q d r' S hm fun v H' E q => hq v H' E (.rep q)
def listOf (m : SA) : SE := fun r => match m r with | some (ds, r') => some (.list ds, r') | none => none
theorem OkN.dat {m : SA} (h : OkN X e m) : OkE X e (listOf m) := by
  intro P sg H r Q d r' S hm hq
  unfold listOf at hm
  split at hm
  · rename_i ds r1 e1
    cases hm
    refine h P sg H r Q ds r' S e1 fun p vs H' n => hq _ _ n.ext (.lst n.here (fun z => S.fresh n.new ?_) (n.rep.mono fun a o h k => ⟨h, fun z => k (z.elim (fun z => .inl (.inl z)) .inr)⟩))
    exact z.elim .inl fun z => .inr ((n.ext.own _).mp z)
  · cases hm
theorem OkNT.dat {K : PySem.W.Frag} {T : TE} {m : SA} (h : OkNT K T m) : OkET K T (listOf m) := by
  intro P sg H r Q d r' S hm hq
  unfold listOf at hm
  split at hm
  · rename_i ds r1 e1
    cases hm
    refine h P sg H r Q ds r' S e1 fun p vs H' n => hq _ _ n.ext (.lst n.here (fun z => S.fresh n.new ?_) (n.rep.mono fun a o h k => ⟨h, fun z => k (z.elim (fun z => .inl (.inl z)) .inr)⟩))
    exact z.elim .inl fun z => .inr ((n.ext.own _).mp z)
  · cases hm

/-! ### names, constants -/
def mVar (i : Nat) : SE := fun r => match r[i]? with | some (some (.d x)) => some (x, r) | _ => none
theorem okE_var {i : Nat} {x : Str} (hN : X.N[i]? = some x) (hv : Vis X.env.scope x) (hd : (x == ("__debug__" : Str)) = false) (hcd : (x == ("__classdict__" : Str)) = false) : OkE X (.Name x pos) (mVar i) := by
  intro P sg H r Q d r' S hm hq
  unfold mVar at hm
  split at hm
  · rename_i y e1
    cases hm
    obtain ⟨v, h1, h2⟩ := S.dat i _ e1
    exact UE.of (pe_var hN hv hd hcd) ⟨v, h1, hq v H (Ext.refl S) h2⟩
  · cases hm
def bVar (s : Bool) (i : Nat) : SE := fun r => match r[i]? with | some (some (.d x)) => some (x, r) | some (some (.own xs)) => some (.list xs, r) | some (some (.scr ns)) => if s then some (.list (ns.map PyData.int), r) else none | _ => none
theorem okB_var {s : Bool} {i : Nat} {x : Str} (hN : X.N[i]? = some x) (hv : Vis X.env.scope x) (hd : (x == ("__debug__" : Str)) = false) (hcd : (x == ("__classdict__" : Str)) = false) : OkB s X (.Name x pos) (bVar s i) := by
  intro P sg H r Q d r' S hm hq
  unfold bVar at hm
  split at hm
  · rename_i y e1
    cases hm
    obtain ⟨v, h1, h2⟩ := S.dat i _ e1
    exact UE.of (pe_var hN hv hd hcd) ⟨v, h1, hq v H (Ext.refl S) (.rep h2)⟩
  · rename_i y e1
    cases hm
    obtain ⟨p, vs, h1, h2, h3⟩ := S.own i _ e1
    exact UE.of (pe_var hN hv hd hcd) ⟨_, h1, hq _ H (Ext.refl S) (.own h2 h3)⟩
  · rename_i y e1
    split at hm
    · rename_i hs
      cases hm
      obtain ⟨p, h1, h2⟩ := S.scr i _ e1
      exact UE.of (pe_var hN hv hd hcd) ⟨_, h1, hq _ H (Ext.refl S) (.scr hs (h2.map fun o h2 _ => ⟨h2, id⟩))⟩
    · cases hm
  · cases hm
def mCst (d : D) : SE := fun r => some (d, r)
theorem okE_cst {d : D} {v : V} (h : PE X e (tC v)) (hr : ∀ L H, Rep X.K L H v d) : OkE X e (mCst d) := by
  intro P sg H r Q d' r' S hm hq
  cases hm
  exact UE.of h (hq v H (Ext.refl S) (hr _ _))
theorem okE_int {i : Int} {j : Nat} : OkE X (.Constant (.int i) j pos) (mCst (.int i)) := okE_cst pe_int fun _ _ => .int i
theorem okE_bl {i : Bool} {j : Nat} : OkE X (.Constant (.bool i) j pos) (mCst (.bool i)) := okE_cst pe_bl fun _ _ => .bl i
theorem okE_non {j : Nat} : OkE X (.Constant .none j pos) (mCst .none) := okE_cst pe_non fun _ _ => .non
theorem okE_str {x : Str} {j : Nat} (h : PyData.strOk x = true) : OkE X (.Constant (.str x) j pos) (mCst (.str x)) := okE_cst pe_str fun _ _ => .str x h

/-! ### argument lists, displays -/
def aNil : SA := fun r => some ([], r)
def aCons (m : SE) (n : SA) : SA := fun r => match m r with
  | some (d, r1) => match n r1 with | some (ds, r2) => some (d :: ds, r2) | none => none
  | none => none
theorem okA_nil : OkA X [] aNil := by
  intro P sg H r Q ds r' S hm hq
  cases hm
  exact UA.of pa_nil (hq [] H (Ext.refl S) .nil)
theorem okA_cons {es : List Expr} {m : SE} {n : SA} (h : OkE X e m) (hn : OkA X es n) (hs : starEach (e :: es) X.env = (false, eval e X.env) :: starEach es X.env) : OkA X (e :: es) (aCons m n) := by
  intro P sg H r Q ds r' S hm hq
  unfold aCons at hm
  split at hm
  · rename_i d r1 e1
    split at hm
    · rename_i ds' r2 e2
      cases hm
      refine UA.of (pa_cons UE.pe UA.pa hs) ?_
      refine h P sg H r _ d r1 S e1 fun v H1 E1 q1 => ?_
      refine hn P sg H1 r1 _ ds' _ E1.sim e2 fun vs H2 E2 q2 => ?_
      exact hq (v :: vs) H2 (E1.trans E2) (.cons (E2.rep q1) q2)
    · cases hm
  · cases hm
def mTup (n : SA) : SE := fun r => match n r with | some (ds, r') => if ds.length ≤ sizeLine then some (.tuple ds, r') else none | none => none
theorem okE_tup {es : List Expr} {n : SA} {k : Nat} (h : OkA X es n) : OkE X (.Tuple es k pos) (mTup n) := by
  intro P sg H r Q d r' S hm hq
  unfold mTup at hm
  split at hm
  · rename_i ds r1 e1
    split at hm
    · rename_i hz
      cases hm
      refine UE.of (pe_tup UA.pa) ?_
      refine h P sg H r _ ds _ S e1 fun vs H1 E1 q1 => ⟨by rw [q1.length]; exact hz, fun p hp => ?_⟩
      exact hq _ _ (E1.trans (E1.sim.new _ hp)) (E1.sim.newTup hp q1)
    · cases hm
  · cases hm
def nLst (n : SA) : SA := fun r => match n r with | some (ds, r') => if ds.length ≤ sizeLine then some (ds, r') else none | none => none
theorem later_or {L : Addr → Prop} {H H' : Hp} {p : Addr} (h : H p = none) (g : ∀ a o, H a = some o → H' a = some o) : Later L H (fun a => L a ∨ a = p) H' := fun a o e n =>
  ⟨g a o e, fun z => z.elim n fun z => by subst z; rw [h] at e; cases e⟩
theorem okN_lst {es : List Expr} {n : SA} (h : OkA X es n) : OkN X (.List es pos) (nLst n) := by
  intro P sg H r Q ds r' S hm hq
  unfold nLst at hm
  split at hm
  · rename_i ds r1 e1
    split at hm
    · rename_i hz
      cases hm
      refine UE.of (pe_lst UA.pa) ?_
      refine h P sg H r _ _ _ S e1 fun vs H1 E1 q1 => ⟨by rw [q1.length]; exact hz, fun p hp => ?_⟩
      exact hq p vs _ (E1.newL hp q1)
    · cases hm
  · cases hm
end
end DL

namespace DL
open PySem PySem.Spec L2

/-! ### operands: a name is looked at when the operation is done -/
inductive Opd where
  | ex (m : SE) | sl (i : Nat)
def view (s : Bool) : Option (Option Sl) → Option D
  | some (some (.d x)) => some x
  | some (some (.own xs)) => some (.list xs)
  | some (some (.scr ns)) => if s then some (.list (ns.map PyData.int)) else none
  | _ => none
def Opd.pre : Opd → Env → Option (Option D × Env)
  | .ex m, r => match m r with | some (d, r') => some (some d, r') | none => none
  | .sl _, r => some (none, r)
def Opd.post (s : Bool) : Opd → Option D → Env → Option D
  | .ex _, x, _ => x
  | .sl i, _, r => view s r[i]?
def Pend (K : PySem.W.Frag) (P : Addr → Prop) (sg : St) : Opd → V → Option D → Env → Hp → Prop
  | .ex _, v, x, r, H => ∃ d, x = some d ∧ Rep K (Lv P sg r) H v d
  | .sl i, v, _, _, _ => sg[i]? = some (some v)
theorem Pend.ext {K : PySem.W.Frag} {P : Addr → Prop} {sg : St} {o : Opd} {v : V} {x : Option D} {r r' : Env} {H H' : Hp} (E : Ext K P sg r H r' H') (h : Pend K P sg o v x r H) : Pend K P sg o v x r' H' := by
  cases o with
  | ex m => obtain ⟨d, e, q⟩ := h; exact ⟨d, e, E.rep q⟩
  | sl i => exact h
theorem Pend.done {s : Bool} {K : PySem.W.Frag} {P : Addr → Prop} {sg : St} {o : Opd} {v : V} {x : Option D} {r : Env} {H : Hp} {d : D} (S : Sim K P sg H r) (h : Pend K P sg o v x r H) (e : o.post s x r = some d) : Bor s K (Lv P sg r) H v d := by
  cases o with
  | ex m =>
    obtain ⟨d', e', q⟩ := h
    cases e'.symm.trans e
    exact .rep q
  | sl i =>
    have h : sg[i]? = some (some v) := h
    have e : view s r[i]? = some d := e
    unfold view at e
    split at e
    · rename_i y e1
      cases e
      obtain ⟨u, h1, h2⟩ := S.dat i _ e1
      rw [h] at h1; cases h1
      exact .rep h2
    · rename_i y e1
      cases e
      obtain ⟨p, vs, h1, h2, h3⟩ := S.own i _ e1
      rw [h] at h1; cases h1
      exact .own h2 h3
    · rename_i y e1
      split at e
      · rename_i hs
        cases e
        obtain ⟨p, h1, h2⟩ := S.scr i _ e1
        rw [h] at h1; cases h1
        exact .scr hs (h2.map fun o h2 _ => ⟨h2, id⟩)
      · cases e
    · cases e
def Opd.Here : Opd → Env → Prop
  | .ex _, _ => True
  | .sl i, r => ∃ y, r[i]? = some (some y)
def OkO (X : Cx) (e : Expr) (o : Opd) : Prop := ∀ (P : Addr → Prop) (sg : St) (H : Hp) (r : Env) (Q : VK) (x : Option D) (r' : Env), Sim X.K P sg H r → o.pre r = some (x, r') →
  (∀ v H', Ext X.K P sg r H r' H' → Pend X.K P sg o v x r' H' → Q v H') → o.Here r → UE X e sg H Q
/-- the slot holds something -/
def Opd.here : Opd → Env → Bool
  | .ex _, _ => true
  | .sl i, r => match r[i]? with | some (some _) => true | _ => false
theorem here_of {o : Opd} {r : Env} (h : o.here r = true) : o.Here r := by
  cases o with
  | ex m => trivial
  | sl i =>
    unfold Opd.here at h
    simp only at h
    split at h
    · rename_i y e; exact ⟨y, e⟩
    · cases h
theorem Sim.held {K : PySem.W.Frag} {P : Addr → Prop} {sg : St} {r : Env} {H : Hp} (S : Sim K P sg H r) {i : Nat} {y : Sl} (h : r[i]? = Option.some (Option.some y)) : ∃ v, sg[i]? = Option.some (Option.some v) := by
  cases y with
  | d x => obtain ⟨v, h1, _⟩ := S.dat i x h; exact ⟨v, h1⟩
  | own x => obtain ⟨a, vs, h1, _⟩ := S.own i x h; exact ⟨_, h1⟩
  | scr x => obtain ⟨a, h1, _⟩ := S.scr i x h; exact ⟨_, h1⟩
section
variable {X : Cx} {e a b : Expr} {pos : Pos}
theorem okO_ex {m : SE} (h : OkE X e m) : OkO X e (.ex m) := by
  intro P sg H r Q x r' S hm hq _
  unfold Opd.pre at hm
  simp only at hm
  split at hm
  · rename_i d r1 e1
    cases hm
    exact h P sg H r Q d _ S e1 fun v H' E q => hq v H' E ⟨d, rfl, q⟩
  · cases hm
theorem okO_sl {i : Nat} {x : Str} (hN : X.N[i]? = some x) (hv : Vis X.env.scope x) (hd : (x == ("__debug__" : Str)) = false) (hcd : (x == ("__classdict__" : Str)) = false) : OkO X (.Name x pos) (.sl i) := by
  intro P sg H r Q y r' S hm hq hh
  cases hm
  obtain ⟨z, hz⟩ := hh
  obtain ⟨v, h1⟩ := S.held hz
  exact UE.of (pe_var hN hv hd hcd) ⟨v, h1, hq v H (Ext.refl S) h1⟩

/-! ### two operands -/
def OpS (s : Bool) (X : Cx) (f : Value → Value → Sem Value) (g : D → D → Option D) : Prop := ∀ (P : Addr → Prop) (sg : St) (H : Hp) (r : Env) (v u : V) (x y z : D) (Q : VK), Sim X.K P sg H r →
  Bor s X.K (Lv P sg r) H v x → Bor s X.K (Lv P sg r) H u y → g x y = some z → (∀ w H', Ext X.K P sg r H r H' → Rep X.K (Lv P sg r) H' w z → Q w H') → opB X f v u H Q
def two (s : Bool) (oa ob : Opd) (r : Env) : Option (D × D × Env) :=
  if oa.here r then match oa.pre r with
  | some (x, r1) => if ob.here r1 then match ob.pre r1 with
    | some (y, r2) => match oa.post s x r2, ob.post s y r2 with
      | some x', some y' => some (x', y', r2)
      | _, _ => none
    | none => none else none
  | none => none else none
theorem two_ok {s : Bool} {oa ob : Opd} (ha : OkO X a oa) (hb : OkO X b ob) {P : Addr → Prop} {sg : St} {H : Hp} {r r' : Env} {x y : D} {R : V → V → Hp → Prop} (S : Sim X.K P sg H r) (hm : two s oa ob r = some (x, y, r'))
    (hq : ∀ v u H', Ext X.K P sg r H r' H' → Bor s X.K (Lv P sg r') H' v x → Bor s X.K (Lv P sg r') H' u y → R v u H') : UE X a sg H fun v H1 => UE X b sg H1 fun u H2 => R v u H2 := by
  unfold two at hm
  split at hm
  · rename_i h0
    split at hm
    · rename_i x1 r1 e1
      split at hm
      · rename_i h1
        split at hm
        · rename_i y1 r2 e2
          split at hm
          · rename_i x2 y2 e3 e4
            cases hm
            refine ha P sg H r _ x1 r1 S e1 (fun v H1 E1 q1 => ?_) (here_of h0)
            refine hb P sg H1 r1 _ y1 _ E1.sim e2 (fun u H2 E2 q2 => ?_) (here_of h1)
            exact hq v u H2 (E1.trans E2) ((q1.ext E2).done E2.sim e3) (q2.done E2.sim e4)
          · cases hm
        · cases hm
      · cases hm
    · cases hm
  · cases hm
def mBin (s : Bool) (oa ob : Opd) (g : D → D → Option D) : SE := fun r => match two s oa ob r with
  | some (x, y, r') => match g x y with | some z => some (z, r') | none => none
  | none => none
theorem okE_bin {s : Bool} {op : Operator} {oa ob : Opd} {g : D → D → Option D} (ho : OpS s X (binaryOp op) g) (ha : OkO X a oa) (hb : OkO X b ob) : OkE X (.BinOp a op b pos) (mBin s oa ob g) := by
  intro P sg H r Q d r' S hm hq
  unfold mBin at hm
  split at hm
  · rename_i x y r1 e1
    split at hm
    · rename_i z e2
      cases hm
      refine UE.of (pe_op opB_ok UE.pe UE.pe) (two_ok ha hb S e1 fun v u H2 E bx bq => ?_)
      exact ho P sg H2 _ v u x y _ Q E.sim bx bq e2 fun w H' E' q => hq w H' (E.trans E') q
    · cases hm
  · cases hm
theorem okE_cmp {s : Bool} {op : CmpOp} {oa ob : Opd} {g : D → D → Option D} (ho : OpS s X (compareOp op) g) (ha : OkO X a oa) (hb : OkO X b ob) (hm' : behindInMarks op b = false) : OkE X (.Compare a [op] [b] pos) (mBin s oa ob g) := by
  intro P sg H r Q d r' S hm hq
  unfold mBin at hm
  split at hm
  · rename_i x y r1 e1
    split at hm
    · rename_i z e2
      cases hm
      refine UE.of (pe_cmpR opB_ok UE.pe UE.pe hm') (two_ok ha hb S e1 fun v u H2 E bx bq => ?_)
      exact ho P sg H2 _ v u x y _ Q E.sim bx bq e2 fun w H' E' q => hq w H' (E.trans E') q
    · cases hm
  · cases hm
def tBin (s : Bool) (oa ob : Opd) (g : D → D → Option D) : ST := fun r => match mBin s oa ob g r with | some (.bool b, r') => some (b, r') | _ => none
theorem okT_cmp {s : Bool} {op : CmpOp} {oa ob : Opd} {g : D → D → Option D} (ho : OpS s X (compareOp op) g) (ha : OkO X a oa) (hb : OkO X b ob) (hm' : behindInMarks op b = false) : OkT X (.Compare a [op] [b] pos) (tBin s oa ob g) := by
  intro P sg H r Q d r' S hm hq
  unfold tBin at hm
  split at hm
  · rename_i c r1 e0
    cases hm
    unfold mBin at e0
    split at e0
    · rename_i x y r1 e1
      split at e0
      · rename_i z e2
        cases e0
        refine UT.of (pt_cmpR opB_ok UE.pe UE.pe hm') (two_ok (R := fun v u H2 => opB X (compareOp op) v u H2 fun z H' => ∃ k, z = .bl k ∧ Q k H') ha hb S e1 fun v u H2 E bx bq => ?_)
        refine ho P sg H2 _ v u x y _ _ E.sim bx bq e2 fun w H' E' q => ?_
        cases q
        exact ⟨_, rfl, hq H' (E.trans E')⟩
      · cases e0
    · cases e0
  · cases hm
end
/-! ### the operators -/
section
variable {X : Cx}
theorem strOk_append {x y : Str} (h : PyData.strOk x = true) (h' : PyData.strOk y = true) : PyData.strOk (x ++ y) = true := by
  unfold PyData.strOk at *
  show (x.cps ++ y.cps).all _ = true
  rw [Array.all_append, h, h']; rfl
def fAdd : D → D → Option D
  | .int i, .int j => some (.int (i + j))
  | .str x, .str y => if x.length + y.length ≤ sizeLine then some (.str (x ++ y)) else none
  | .tuple xs, .tuple ys => if xs.length + ys.length ≤ sizeLine then some (.tuple (xs ++ ys)) else none
  | .list xs, .list ys => if xs.length + ys.length ≤ sizeLine then some (.list (xs ++ ys)) else none
  | _, _ => none
theorem Bor.int {s K L H v i} (h : Bor s K L H v (.int i)) : v = .int i := by
  cases h with | rep h => cases h; rfl
theorem Bor.str {s K L H v x} (h : Bor s K L H v (.str x)) : v = .str x ∧ PyData.strOk x = true := by
  cases h with | rep h => cases h with | str x h => exact ⟨rfl, h⟩
theorem Bor.bool {s K L H v b} (h : Bor s K L H v (.bool b)) : v = .bl b := by
  cases h with | rep h => cases h; rfl
theorem Bor.none {s K L H v} (h : Bor s K L H v .none) : v = .non := by
  cases h with | rep h => cases h; rfl
theorem RepL.ne {K L H} {xs : List V} {ds : List D} (h : RepL K L H xs ds) : xs = [] ↔ ds = [] := by
  cases h with
  | nil => simp
  | cons r t => simp
theorem opS_add : OpS false X (binaryOp .Add) fAdd := by
  intro P sg H r v u x y z Q S hx hy hz hq
  unfold fAdd at hz
  split at hz
  · cases hz
    exact ⟨_, op_add, _, _, hx.int, hy.int, hq _ H (Ext.refl S) (.int _)⟩
  · split at hz
    · rename_i hl
      cases hz
      exact ⟨_, op_add_str, _, _, hx.str.1, hy.str.1, hl, hq _ H (Ext.refl S) (.str _ (strOk_append hx.str.2 hy.str.2))⟩
    · cases hz
  · rename_i xs ys
    split at hz
    · rename_i hl
      cases hz
      obtain ⟨p, vs, rfl, h1, r1⟩ := hx.tuple
      obtain ⟨q, us, rfl, h2, r2⟩ := hy.tuple
      refine ⟨_, op_catA, p, q, vs, us, rfl, rfl, h1, h2, by rw [r1.length, r2.length]; exact hl, fun e => ?_, fun n e => ?_, fun _ _ l hl' => ?_⟩
      · have e' : xs = [] := r1.ne.mp e
        subst e'
        refine hq _ H (Ext.refl S) ?_
        cases hy with | rep hy => exact hy
      · have e' : ys = [] := r2.ne.mp e
        subst e'
        refine hq _ H (Ext.refl S) ?_
        rw [List.append_nil]
        cases hx with | rep hx => exact hx
      · exact hq _ _ (S.new _ hl') (S.newTup hl' (r1.append r2))
    · cases hz
  · split at hz
    · rename_i hl
      cases hz
      obtain ⟨p, vs, rfl, _, r1, h1⟩ := hx.list
      obtain ⟨q, us, rfl, _, r2, h2⟩ := hy.list
      exact ⟨_, op_cat, p, q, vs, us, rfl, rfl, h1 rfl, h2 rfl, by rw [r1.length, r2.length]; exact hl, fun l hl' => hq _ _ (S.new _ hl') (S.newLst hl' (r1.append r2))⟩
    · cases hz
  · cases hz
def fSub : D → D → Option D
  | .int i, .int j => some (.int (i - j))
  | _, _ => none
theorem opS_sub : OpS false X (binaryOp .Sub) fSub := by
  intro P sg H r v u x y z Q S hx hy hz hq
  unfold fSub at hz
  split at hz
  · cases hz
    exact ⟨_, op_sub, _, _, hx.int, hy.int, hq _ H (Ext.refl S) (.int _)⟩
  · cases hz
def mulOk (i j : Int) : Bool := (decide (-(2 ^ 64) < i) && decide (i < 2 ^ 64)) || (decide (-(2 ^ 64) < j) && decide (j < 2 ^ 64))
def fMul : D → D → Option D
  | .int i, .int j => if mulOk i j then some (.int (i * j)) else none
  | .list xs, .int k => if decide (0 ≤ k) && decide (k < 2 ^ 63) && decide (xs.length * k.toNat ≤ sizeLine) then some (.list (List.replicate k.toNat xs).flatten) else none
  | _, _ => none
theorem opS_mul : OpS false X (binaryOp .Mult) fMul := by
  intro P sg H r v u x y z Q S hx hy hz hq
  unfold fMul at hz
  split at hz
  · split at hz
    · rename_i hc
      cases hz
      refine ⟨_, op_mul, _, _, hx.int, hy.int, ?_, hq _ H (Ext.refl S) (.int _)⟩
      unfold mulOk at hc
      simpa [CMul] using hc
    · cases hz
  · split at hz
    · rename_i hc
      cases hz
      obtain ⟨p, vs, rfl, _, r1, h1⟩ := hx.list
      simp only [Bool.and_eq_true, decide_eq_true_eq] at hc
      refine ⟨_, op_rep, p, _, vs, rfl, hy.int, h1 rfl, by omega, hc.1.2, by rw [r1.length]; exact hc.2, fun l hl' => hq _ _ (S.new _ hl') (S.newLst hl' (r1.rep _))⟩
    · cases hz
  · cases hz
def fMod : D → D → Option D
  | .int i, .int j => if 0 < j then some (.int (i % j)) else none
  | _, _ => none
theorem opS_mod : OpS false X (binaryOp .Mod) fMod := by
  intro P sg H r v u x y z Q S hx hy hz hq
  unfold fMod at hz
  split at hz
  · split at hz
    · rename_i hc
      cases hz
      exact ⟨_, op_mod, _, _, hx.int, hy.int, hc, hq _ H (Ext.refl S) (.int _)⟩
    · cases hz
  · cases hz
def fFdiv : D → D → Option D
  | .int i, .int j => if 0 < j ∧ j < 1073741824 then some (.int (i / j)) else none
  | _, _ => none
theorem opS_fdiv : OpS false X (binaryOp .FloorDiv) fFdiv := by
  intro P sg H r v u x y z Q S hx hy hz hq
  unfold fFdiv at hz
  split at hz
  · split at hz
    · rename_i hc
      cases hz
      exact ⟨_, op_fdiv, _, _, hx.int, hy.int, hc, hq _ H (Ext.refl S) (.int _)⟩
    · cases hz
  · cases hz
def fPow : D → D → Option D
  | .int i, .int j => if 0 ≤ j ∧ j ≤ 1000 ∧ i.natAbs < 2 ^ 64 then some (.int (i ^ j.toNat)) else none
  | _, _ => none
theorem opS_pow : OpS false X (binaryOp .Pow) fPow := by
  intro P sg H r v u x y z Q S hx hy hz hq
  unfold fPow at hz
  split at hz
  · split at hz
    · rename_i hc
      cases hz
      exact ⟨_, op_pow, _, _, hx.int, hy.int, ⟨hc.1, by omega, hc.2.2⟩, hq _ H (Ext.refl S) (.int _)⟩
    · cases hz
  · cases hz
/-! comparisons -/
def flatD (d : D) : Bool := decide (d.depth ≤ 60)
def fEq (x y : D) : Option D := if flatD x || flatD y then some (.bool (PyData.eqv x y)) else none
def fNe (x y : D) : Option D := if flatD x || flatD y then some (.bool (!PyData.eqv x y)) else none
theorem flat_room {x y : D} {n : Nat} (h : (flatD x || flatD y) = true) (hu : n + 64 < cLine) : n + min x.depth y.depth < cLine := by
  unfold flatD at h
  simp only [Bool.or_eq_true, decide_eq_true_eq] at h
  omega
theorem opS_eq (hu : X.A.units + 64 < cLine) : OpS true X (compareOp .Eq) fEq := by
  intro P sg H r v u x y z Q S hx hy hz hq
  unfold fEq at hz
  split at hz
  · rename_i hc
    cases hz
    refine ⟨fun a b H' Q' => a = v ∧ b = u ∧ H' = H ∧ Q' = Q, ?_, rfl, rfl, rfl, rfl⟩
    rintro pins s sg' H' a b va ub Q' I ra rb ⟨rfl, rfl, rfl, rfl⟩
    obtain ⟨as, r1⟩ := Dp.reads I x _ va hx.dp ra
    obtain ⟨bs, r2⟩ := Dp.reads I y _ ub hy.dp rb
    exact SeqAt.compareEq_reads r1 r2 hx.lay hy.lay (flat_room hc hu) ⟨.bl _, _, I, rfl, hq _ _ (Ext.refl S) (.bl _)⟩
  · cases hz
theorem opS_ne (hu : X.A.units + 64 < cLine) : OpS true X (compareOp .NotEq) fNe := by
  intro P sg H r v u x y z Q S hx hy hz hq
  unfold fNe at hz
  split at hz
  · rename_i hc
    cases hz
    refine ⟨fun a b H' Q' => a = v ∧ b = u ∧ H' = H ∧ Q' = Q, ?_, rfl, rfl, rfl, rfl⟩
    rintro pins s sg' H' a b va ub Q' I ra rb ⟨rfl, rfl, rfl, rfl⟩
    obtain ⟨as, r1⟩ := Dp.reads I x _ va hx.dp ra
    obtain ⟨bs, r2⟩ := Dp.reads I y _ ub hy.dp rb
    exact SeqAt.compareNe_reads r1 r2 hx.lay hy.lay (flat_room hc hu) ⟨.bl _, _, I, rfl, hq _ _ (Ext.refl S) (.bl _)⟩
  · cases hz
def fLt : D → D → Option D
  | .int i, .int j => some (.bool (decide (i < j)))
  | .str x, .str y => some (.bool (decide (x.cps.toList < y.cps.toList)))
  | _, _ => none
theorem opS_lt : OpS true X (compareOp .Lt) fLt := by
  intro P sg H r v u x y z Q S hx hy hz hq
  unfold fLt at hz
  split at hz
  · cases hz
    exact ⟨_, op_lt, _, _, hx.int, hy.int, hq _ H (Ext.refl S) (.bl _)⟩
  · cases hz
    exact ⟨_, op_lt_str, _, _, hx.str.1, hy.str.1, hq _ H (Ext.refl S) (.bl _)⟩
  · cases hz
def fLe : D → D → Option D
  | .int i, .int j => some (.bool (decide (i ≤ j)))
  | _, _ => none
theorem opS_le : OpS true X (compareOp .LtE) fLe := by
  intro P sg H r v u x y z Q S hx hy hz hq
  unfold fLe at hz
  split at hz
  · cases hz
    exact ⟨_, op_le, _, _, hx.int, hy.int, hq _ H (Ext.refl S) (.bl _)⟩
  · cases hz
def fGt : D → D → Option D
  | .int i, .int j => some (.bool (decide (j < i)))
  | _, _ => none
theorem opS_gt : OpS true X (compareOp .Gt) fGt := by
  intro P sg H r v u x y z Q S hx hy hz hq
  unfold fGt at hz
  split at hz
  · cases hz
    exact ⟨_, op_gt, _, _, hx.int, hy.int, hq _ H (Ext.refl S) (.bl _)⟩
  · cases hz
def fGe : D → D → Option D
  | .int i, .int j => some (.bool (decide (j ≤ i)))
  | _, _ => none
theorem opS_ge : OpS true X (compareOp .GtE) fGe := by
  intro P sg H r v u x y z Q S hx hy hz hq
  unfold fGe at hz
  split at hz
  · cases hz
    exact ⟨_, op_ge, _, _, hx.int, hy.int, hq _ H (Ext.refl S) (.bl _)⟩
  · cases hz
def isNone : D → Bool
  | .none => true
  | _ => false
theorem Bor.non_iff {s K L H v d} (h : Bor s K L H v d) : decide (v = .non) = isNone d := by
  cases h with
  | rep h => cases h <;> rfl
  | own => rfl
  | scr => rfl
def fIs (x y : D) : Option D := match y with
  | .none => some (.bool (isNone x))
  | .bool b => match x with | .bool a => some (.bool (decide (a = b))) | _ => none
  | _ => none
theorem opS_is : OpS true X (compareOp .Is) fIs := by
  intro P sg H r v u x y z Q S hx hy hz hq
  unfold fIs at hz
  split at hz
  · cases hz
    refine ⟨_, op_isN, hy.none, ?_⟩
    rw [hx.non_iff]
    exact hq _ H (Ext.refl S) (.bl _)
  · split at hz
    · cases hz
      exact ⟨_, op_isBl, _, _, hx.bool, hy.bool, hq _ H (Ext.refl S) (.bl _)⟩
    · cases hz
  · cases hz
def fIsNot (x y : D) : Option D := match y with
  | .none => some (.bool (!isNone x))
  | .bool b => match x with | .bool a => some (.bool (!decide (a = b))) | _ => none
  | _ => none
theorem opS_isnot : OpS true X (compareOp .IsNot) fIsNot := by
  intro P sg H r v u x y z Q S hx hy hz hq
  unfold fIsNot at hz
  split at hz
  · cases hz
    refine ⟨_, op_notN, hy.none, ?_⟩
    rw [hx.non_iff]
    exact hq _ H (Ext.refl S) (.bl _)
  · split at hz
    · cases hz
      exact ⟨_, op_notBl, _, _, hx.bool, hy.bool, hq _ H (Ext.refl S) (.bl _)⟩
    · cases hz
  · cases hz
def inS (w : List Nat) (z : Str) : Option Bool := match w with | [c] => some (decide (c ∈ z.cps.toList)) | _ => none
theorem inS_of {w z : Str} {b : Bool} (h : inS w.cps.toList z = some b) : ∃ c, w = ⟨#[c]⟩ ∧ b = decide (c ∈ z.cps.toList) := by
  unfold inS at h
  split at h
  · rename_i c e
    cases h
    obtain ⟨⟨l⟩⟩ := w
    have e : l = [c] := e
    subst e
    exact ⟨c, rfl, rfl⟩
  · cases h
def inD (x : D) : D → Option Bool
  | .list ds => if flatD x || flatD (.list ds) then some (ds.any fun y => PyData.eqv y x) else none
  | .tuple ds => if flatD x || flatD (.tuple ds) then some (ds.any fun y => PyData.eqv y x) else none
  | .str z => match x with | .str w => inS w.cps.toList z | _ => none
  | _ => none
def fIn (x y : D) : Option D := match inD x y with | some b => some (.bool b) | none => none
def fNotIn (x y : D) : Option D := match inD x y with | some b => some (.bool (!b)) | none => none
theorem in_room {x : D} {xs : List D} {n : Nat} (h : (flatD x || flatD (.list xs)) = true) (hu : n + 65 < cLine) : n + 1 + min (PyData.depthAll xs) x.depth < cLine := by
  have h' : (decide (x.depth ≤ 60) || decide (PyData.depthAll xs + 1 ≤ 60)) = true := h
  simp only [Bool.or_eq_true, decide_eq_true_eq] at h'
  omega
theorem opS_in (hu : X.A.units + 65 < cLine) : OpS true X (compareOp .In) fIn := by
  intro P sg H r v u x y z Q S hx hy hz hq
  unfold fIn at hz
  split at hz
  · rename_i b e
    cases hz
    unfold inD at e
    split at e
    · split at e
      · rename_i hc
        cases e
        refine ⟨fun a b H' Q' => a = v ∧ b = u ∧ H' = H ∧ Q' = Q, ?_, rfl, rfl, rfl, rfl⟩
        rintro pins s sg' H' a b va ub Q' I ra rb ⟨rfl, rfl, rfl, rfl⟩
        obtain ⟨as, r1⟩ := Dp.reads I x _ va hx.dp ra
        obtain ⟨bs, r2⟩ := Dp.reads I _ _ ub hy.dp rb
        exact SeqAt.in_list_reads r2 r1 hy.lay hx.lay (in_room hc hu) ⟨.bl _, _, I, rfl, hq _ _ (Ext.refl S) (.bl _)⟩
      · cases e
    · split at e
      · rename_i hc
        cases e
        refine ⟨fun a b H' Q' => a = v ∧ b = u ∧ H' = H ∧ Q' = Q, ?_, rfl, rfl, rfl, rfl⟩
        rintro pins s sg' H' a b va ub Q' I ra rb ⟨rfl, rfl, rfl, rfl⟩
        obtain ⟨as, r1⟩ := Dp.reads I x _ va hx.dp ra
        obtain ⟨bs, r2⟩ := Dp.reads I _ _ ub hy.dp rb
        exact SeqAt.in_tuple_reads r2 r1 hy.lay hx.lay (in_room hc hu) ⟨.bl _, _, I, rfl, hq _ _ (Ext.refl S) (.bl _)⟩
      · cases e
    · split at e
      · obtain ⟨c, rfl, rfl⟩ := inS_of e
        exact ⟨_, op_in_sign, _, _, hx.str.1, hy.str.1, hq _ _ (Ext.refl S) (.bl _)⟩
      · cases e
    · cases e
  · cases hz
theorem opS_notIn (hu : X.A.units + 65 < cLine) : OpS true X (compareOp .NotIn) fNotIn := by
  intro P sg H r v u x y z Q S hx hy hz hq
  unfold fNotIn at hz
  split at hz
  · rename_i b e
    cases hz
    unfold inD at e
    split at e
    · split at e
      · rename_i hc
        cases e
        refine ⟨fun a b H' Q' => a = v ∧ b = u ∧ H' = H ∧ Q' = Q, ?_, rfl, rfl, rfl, rfl⟩
        rintro pins s sg' H' a b va ub Q' I ra rb ⟨rfl, rfl, rfl, rfl⟩
        obtain ⟨as, r1⟩ := Dp.reads I x _ va hx.dp ra
        obtain ⟨bs, r2⟩ := Dp.reads I _ _ ub hy.dp rb
        exact SeqAt.notIn_list_reads r2 r1 hy.lay hx.lay (in_room hc hu) ⟨.bl _, _, I, rfl, hq _ _ (Ext.refl S) (.bl _)⟩
      · cases e
    · split at e
      · rename_i hc
        cases e
        refine ⟨fun a b H' Q' => a = v ∧ b = u ∧ H' = H ∧ Q' = Q, ?_, rfl, rfl, rfl, rfl⟩
        rintro pins s sg' H' a b va ub Q' I ra rb ⟨rfl, rfl, rfl, rfl⟩
        obtain ⟨as, r1⟩ := Dp.reads I x _ va hx.dp ra
        obtain ⟨bs, r2⟩ := Dp.reads I _ _ ub hy.dp rb
        exact SeqAt.notIn_tuple_reads r2 r1 hy.lay hx.lay (in_room hc hu) ⟨.bl _, _, I, rfl, hq _ _ (Ext.refl S) (.bl _)⟩
      · cases e
    · split at e
      · obtain ⟨c, rfl, rfl⟩ := inS_of e
        exact ⟨_, op_notIn_sign, _, _, hx.str.1, hy.str.1, hq _ _ (Ext.refl S) (.bl _)⟩
      · cases e
    · cases e
  · cases hz
end
end DL

namespace DL
open PySem PySem.Spec L2
section
variable {X : Cx} {e a b c : Expr} {pos : Pos}

/-! ### minus, not, and, or, if as values -/
def mNeg (m : SE) : SE := fun r => match m r with | some (.int i, r') => some (.int (-i), r') | _ => none
theorem okE_neg {m : SE} (h : OkE X a m) : OkE X (.UnaryOp .USub a pos) (mNeg m) := by
  intro P sg H r Q d r' S hm hq
  unfold mNeg at hm
  split at hm
  · rename_i i r1 e1
    cases hm
    refine UE.of (pe_un un_neg UE.pe) (h P sg H r _ _ _ S e1 fun v H1 E1 q1 => ?_)
    cases q1
    exact ⟨_, rfl, hq _ H1 E1 (.int _)⟩
  · cases hm
def mNot (m : ST) : ST := fun r => match m r with | some (b, r') => some (!b, r') | none => none
theorem okT_not {m : ST} (h : OkT X a m) : OkT X (.UnaryOp .Not a pos) (mNot m) := by
  intro P sg H r Q d r' S hm hq
  unfold mNot at hm
  split at hm
  · rename_i i r1 e1
    cases hm
    exact UT.of (pt_not UT.pt) (h P sg H r _ _ _ S e1 fun H1 E1 => hq H1 E1)
  · cases hm
def mNotV (m : SE) : SE := fun r => match m r with | some (.bool b, r') => some (.bool (!b), r') | _ => none
theorem okE_not {m : SE} (h : OkE X a m) : OkE X (.UnaryOp .Not a pos) (mNotV m) := by
  intro P sg H r Q d r' S hm hq
  unfold mNotV at hm
  split at hm
  · rename_i i r1 e1
    cases hm
    refine UE.of (pe_not UE.pe) (h P sg H r _ _ _ S e1 fun v H1 E1 q1 => ?_)
    cases q1
    exact ⟨_, rfl, hq _ H1 E1 (.bl _)⟩
  · cases hm
def mAnd (m n : SE) : SE := fun r => match m r with | some (.bool true, r') => n r' | some (.bool false, r') => some (.bool false, r') | _ => none
def mOr (m n : SE) : SE := fun r => match m r with | some (.bool false, r') => n r' | some (.bool true, r') => some (.bool true, r') | _ => none
theorem okE_one {m : SE} {op : BoolOp} (h : OkE X a m) : OkE X (.BoolOp op [a] pos) m := fun P sg H r Q d r' S hm hq => UE.of (pe_one UE.pe) (h P sg H r Q d r' S hm hq)
theorem okE_and {rest : List Expr} {m n : SE} (h : OkE X a m) (hn : OkE X (.BoolOp .And (b :: rest) pos) n) : OkE X (.BoolOp .And (a :: b :: rest) pos) (mAnd m n) := by
  intro P sg H r Q d r' S hm hq
  unfold mAnd at hm
  split at hm
  · rename_i r1 e1
    refine UE.of (pe_and UE.pe UE.pe) (h P sg H r _ _ _ S e1 fun v H1 E1 q1 => ?_)
    cases q1
    refine ⟨_, rfl, ?_⟩
    rw [if_pos rfl]
    exact hn P sg H1 r1 Q d r' E1.sim hm fun w H2 E2 q2 => hq w H2 (E1.trans E2) q2
  · rename_i r1 e1
    cases hm
    refine UE.of (pe_and UE.pe UE.pe) (h P sg H r _ _ _ S e1 fun v H1 E1 q1 => ?_)
    cases q1
    refine ⟨_, rfl, ?_⟩
    rw [if_neg Bool.false_ne_true]
    exact hq _ H1 E1 (.bl _)
  · cases hm
theorem okE_or {rest : List Expr} {m n : SE} (h : OkE X a m) (hn : OkE X (.BoolOp .Or (b :: rest) pos) n) : OkE X (.BoolOp .Or (a :: b :: rest) pos) (mOr m n) := by
  intro P sg H r Q d r' S hm hq
  unfold mOr at hm
  split at hm
  · rename_i r1 e1
    refine UE.of (pe_or UE.pe UE.pe) (h P sg H r _ _ _ S e1 fun v H1 E1 q1 => ?_)
    cases q1
    refine ⟨_, rfl, ?_⟩
    rw [if_neg Bool.false_ne_true]
    exact hn P sg H1 r1 Q d r' E1.sim hm fun w H2 E2 q2 => hq w H2 (E1.trans E2) q2
  · rename_i r1 e1
    cases hm
    refine UE.of (pe_or UE.pe UE.pe) (h P sg H r _ _ _ S e1 fun v H1 E1 q1 => ?_)
    cases q1
    refine ⟨_, rfl, ?_⟩
    rw [if_pos rfl]
    exact hq _ H1 E1 (.bl _)
  · cases hm
/-! .. as tests -/
def tAndM (m n : ST) : ST := fun r => match m r with | some (true, r') => n r' | some (false, r') => some (false, r') | none => none
def tOrM (m n : ST) : ST := fun r => match m r with | some (false, r') => n r' | some (true, r') => some (true, r') | none => none
/-- and, or: whatever the whole is -/
def UW (X : Cx) (e : Expr) : TT := fun sg H Q => ∀ whole pins s, Inv X pins sg H s → wpAny (model X.prog X.w) X.A (isTrue e X.env whole) (TP X pins sg Q) X.xe s
theorem UW.pw {X : Cx} {e : Expr} : PW X e (UW X e) := ⟨fun wh pins s _ _ _ I h => h wh pins s I⟩
theorem UW.of {X : Cx} {e : Expr} {t : TT} {sg H Q} (h : PW X e t) (q : t sg H Q) : UW X e sg H Q := fun wh pins s I => h.run wh pins s sg H Q I q
def OkW (X : Cx) (e : Expr) (m : ST) : Prop := ∀ (P : Addr → Prop) (sg : St) (H : Hp) (r : Env) (Q : Bool → Hp → Prop) (b : Bool) (r' : Env), Sim X.K P sg H r → m r = some (b, r') →
  (∀ H', Ext X.K P sg r H r' H' → Q b H') → UW X e sg H Q
theorem OkW.t {m : ST} (h : OkW X e m) : OkT X e m := fun P sg H r Q b r' S hm hq => UT.of UW.pw.pt (h P sg H r Q b r' S hm hq)
theorem okW_and1 {m : ST} (h : OkT X a m) : OkW X (.BoolOp .And [a] pos) m := fun P sg H r Q b r' S hm hq => UW.of (pw_and1 UT.pt) (h P sg H r Q b r' S hm hq)
theorem okW_or1 {m : ST} (h : OkT X a m) : OkW X (.BoolOp .Or [a] pos) m := fun P sg H r Q b r' S hm hq => UW.of (pw_or1 UT.pt) (h P sg H r Q b r' S hm hq)
theorem okW_and {rest : List Expr} {m n : ST} (h : OkT X a m) (hn : OkW X (.BoolOp .And (b :: rest) pos) n) : OkW X (.BoolOp .And (a :: b :: rest) pos) (tAndM m n) := by
  intro P sg H r Q d r' S hm hq
  unfold tAndM at hm
  split at hm
  · rename_i r1 e1
    refine UW.of (pw_and UT.pt UW.pw) (h P sg H r _ _ _ S e1 fun H1 E1 => ?_)
    rw [if_pos rfl]
    exact hn P sg H1 r1 Q d r' E1.sim hm fun H2 E2 => hq H2 (E1.trans E2)
  · rename_i r1 e1
    cases hm
    refine UW.of (pw_and UT.pt UW.pw) (h P sg H r _ _ _ S e1 fun H1 E1 => ?_)
    rw [if_neg Bool.false_ne_true]
    exact hq H1 E1
  · cases hm
theorem okW_or {rest : List Expr} {m n : ST} (h : OkT X a m) (hn : OkW X (.BoolOp .Or (b :: rest) pos) n) : OkW X (.BoolOp .Or (a :: b :: rest) pos) (tOrM m n) := by
  intro P sg H r Q d r' S hm hq
  unfold tOrM at hm
  split at hm
  · rename_i r1 e1
    refine UW.of (pw_or UT.pt UW.pw) (h P sg H r _ _ _ S e1 fun H1 E1 => ?_)
    rw [if_neg Bool.false_ne_true]
    exact hn P sg H1 r1 Q d r' E1.sim hm fun H2 E2 => hq H2 (E1.trans E2)
  · rename_i r1 e1
    cases hm
    refine UW.of (pw_or UT.pt UW.pw) (h P sg H r _ _ _ S e1 fun H1 E1 => ?_)
    rw [if_pos rfl]
    exact hq H1 E1
  · cases hm
def mIf (c : ST) (m n : SE) : SE := fun r => match c r with | some (true, r') => m r' | some (false, r') => n r' | none => none
theorem okE_if {mc : ST} {m n : SE} (hc : OkT X c mc) (h : OkE X a m) (hn : OkE X b n) : OkE X (.IfExp c a b pos) (mIf mc m n) := by
  intro P sg H r Q d r' S hm hq
  unfold mIf at hm
  split at hm
  · rename_i r1 e1
    refine UE.of (pe_ifExp UT.pt UE.pe UE.pe) (hc P sg H r _ _ _ S e1 fun H1 E1 => ?_)
    rw [if_pos rfl]
    exact h P sg H1 r1 Q d r' E1.sim hm fun w H2 E2 q2 => hq w H2 (E1.trans E2) q2
  · rename_i r1 e1
    refine UE.of (pe_ifExp UT.pt UE.pe UE.pe) (hc P sg H r _ _ _ S e1 fun H1 E1 => ?_)
    rw [if_neg Bool.false_ne_true]
    exact hn P sg H1 r1 Q d r' E1.sim hm fun w H2 E2 q2 => hq w H2 (E1.trans E2) q2
  · cases hm
/-! truth -/
def truth : D → Option Bool
  | .none => some false
  | .bool b => some b
  | .int i => some (i != 0)
  | .str x => if x.length ≤ sizeLine then some ((x.length : Int) != 0) else none
  | .list xs => some (!xs.isEmpty)
  | .tuple xs => some (!xs.isEmpty)
  | .dict _ => none
theorem truth_ok {s : Bool} {K : PySem.W.Frag} {L : Addr → Prop} {H : Hp} {v : V} {d : D} {b : Bool} (h : Bor s K L H v d) (e : truth d = some b) : TruV K v H b := by
  cases d with
  | none => cases e; cases h.none; rfl
  | bool c => cases e; cases h.bool; rfl
  | int i => cases e; cases h.int; rfl
  | str x =>
    unfold truth at e
    simp only at e
    split at e
    · rename_i hl
      cases e
      cases h.str.1
      exact ⟨hl, rfl⟩
    · cases e
  | list xs =>
    cases e
    obtain ⟨p, vs, rfl, h1, r1, _⟩ := h.list
    exact .inl ⟨vs, h1, by cases r1 <;> rfl⟩
  | tuple xs =>
    cases e
    obtain ⟨p, vs, rfl, h1, r1⟩ := h.tuple
    exact .inr (.inl ⟨vs, h1, by cases r1 <;> rfl⟩)
  | dict _ => cases e
def mTru (o : Opd) : ST := fun r => if o.here r then match o.pre r with
  | some (x, r') => match o.post true x r' with
    | some d => match truth d with | some b => some (b, r') | none => none
    | none => none
  | none => none else none
theorem okT_tru {o : Opd} (h : OkO X a o) (he : ∀ whole, isTrue a X.env whole = (do let v ← whole; standAt a.pos; holding [v] (truthy v))) : OkT X a (mTru o) := by
  intro P sg H r Q d r' S hm hq
  unfold mTru at hm
  split at hm
  · rename_i h0
    split at hm
    · rename_i x r1 e1
      split at hm
      · rename_i y e2
        split at hm
        · rename_i z e3
          cases hm
          refine UT.of (pt_truth UE.pe he) (h P sg H r _ _ _ S e1 (fun v H1 E1 q1 => ⟨d, truth_ok (q1.done E1.sim e2) e3, hq H1 E1⟩) (here_of h0))
        · cases hm
      · cases hm
    · cases hm
  · cases hm
/-! a < b < c over numbers -/
def mCh (f g : Int → Int → Bool) (ma mb mc : SE) : SE := fun r => match ma r with
  | some (.int i, r1) => match mb r1 with
    | some (.int j, r2) => if f i j then (match mc r2 with | some (.int k, r3) => some (.bool (g j k), r3) | _ => none) else some (.bool false, r2)
    | _ => none
  | _ => none
theorem okE_ch {op op' : CmpOp} {f g : Int → Int → Bool} {ma mb mc : SE} (h1 : OpR X (compareOp op) (rI0 fun i j => .bl (f i j))) (h2 : OpR X (compareOp op') (rI0 fun i j => .bl (g i j)))
    (ha : OkE X a ma) (hb : OkE X b mb) (hc : OkE X c mc) (hl : lastMarks [op, op'] [b, c] = false) : OkE X (.Compare a [op, op'] [b, c] pos) (mCh f g ma mb mc) := by
  intro P sg H r Q d r' S hm hq
  unfold mCh at hm
  split at hm
  · rename_i i r1 e1
    split at hm
    · rename_i j r2 e2
      refine UE.of (pe_chain h1 h2 UE.pe UE.pe UE.pe hl) (ha P sg H r _ _ _ S e1 fun v H1 E1 q1 => hb P sg H1 r1 _ _ _ E1.sim e2 fun u H2 E2 q2 => ?_)
      cases q1
      cases q2
      refine ⟨i, j, rfl, rfl, _, rfl, ?_⟩
      split at hm
      · rename_i hf
        rw [hf, if_pos rfl]
        split at hm
        · rename_i k r3 e3
          cases hm
          refine hc P sg H2 r2 _ _ _ E2.sim e3 fun w H3 E3 q3 => ?_
          cases q3
          exact ⟨j, k, rfl, rfl, hq _ H3 ((E1.trans E2).trans E3) (.bl _)⟩
        · cases hm
      · rename_i hf
        cases hm
        rw [if_neg hf]
        exact hq _ H2 (E1.trans E2) (.bl _)
    · cases hm
  · cases hm
def tBool (m : SE) : ST := fun r => match m r with | some (.bool b, r') => some (b, r') | _ => none
theorem okT_ch {op op' : CmpOp} {f g : Int → Int → Bool} {ma mb mc : SE} (h1 : OpR X (compareOp op) (rI0 fun i j => .bl (f i j))) (h2 : OpR X (compareOp op') (rI0 fun i j => .bl (g i j)))
    (ha : OkE X a ma) (hb : OkE X b mb) (hc : OkE X c mc) (hl : lastMarks [op, op'] [b, c] = false) : OkT X (.Compare a [op, op'] [b, c] pos) (tBool (mCh f g ma mb mc)) := by
  intro P sg H r Q d r' S hm0 hq
  unfold tBool at hm0
  split at hm0
  · rename_i bb rr hm
    cases hm0
    unfold mCh at hm
    split at hm
    · rename_i i r1 e1
      split at hm
      · rename_i j r2 e2
        refine UT.of (pt_chain h1 h2 UE.pe UE.pe UE.pe hl) (ha P sg H r _ _ _ S e1 fun v H1 E1 q1 => hb P sg H1 r1 _ _ _ E1.sim e2 fun u H2 E2 q2 => ?_)
        cases q1
        cases q2
        refine ⟨i, j, rfl, rfl, _, rfl, ?_⟩
        split at hm
        · rename_i hf
          rw [hf, if_pos rfl]
          split at hm
          · rename_i k r3 e3
            cases hm
            refine hc P sg H2 r2 _ _ _ E2.sim e3 fun w H3 E3 q3 => ?_
            cases q3
            exact ⟨j, k, rfl, rfl, _, rfl, hq H3 ((E1.trans E2).trans E3)⟩
          · cases hm
        · rename_i hf
          cases hm
          rw [if_neg hf]
          exact ⟨_, rfl, hq H2 (E1.trans E2)⟩
      · cases hm
    · cases hm
  · cases hm0

/-! ### a[i], a[i:j] -/
def nthI {α : Type} (xs : List α) (i : Int) : Option α := atI xs i
theorem RepL.atI {K L H} {xs : List V} {ds : List D} {i : Int} {x : D} (h : RepL K L H xs ds) (e : L2.atI ds i = some x) : ∃ v, L2.atI xs i = some v ∧ Rep K L H v x := by
  unfold L2.atI at e ⊢
  rw [h.length]
  cases q : ixN ds.length i with
  | none => rw [q] at e; cases e
  | some j =>
    rw [q] at e
    obtain ⟨v, h1, h2⟩ := h.get (show ds[j]? = some x from e)
    exact ⟨v, h1, h2⟩
theorem strOk_one {z : Str} {i : Int} {c : Nat} (h : PyData.strOk z = true) (e : L2.atI z.cps.toList i = some c) : PyData.strOk ⟨#[c]⟩ = true := by
  obtain ⟨j, _, h2, _⟩ := atI_get e
  unfold PyData.strOk at h ⊢
  rw [← Array.all_toList, List.all_eq_true] at h
  have := h c (List.mem_of_getElem? h2)
  simpa using this
def fIx : D → D → Option D
  | .list ds, .int i => L2.atI ds i
  | .tuple ds, .int i => L2.atI ds i
  | .str z, .int i => if z.length ≤ sizeLine then (match L2.atI z.cps.toList i with | some c => some (.str ⟨#[c]⟩) | none => none) else none
  | _, _ => none
def IxS (X : Cx) (g : D → D → Option D) : Prop := ∀ (P : Addr → Prop) (sg : St) (H : Hp) (r : Env) (v u : V) (x y z : D) (Q : VK), Sim X.K P sg H r →
  Bor true X.K (Lv P sg r) H v x → Bor true X.K (Lv P sg r) H u y → g x y = some z → (∀ w H', Ext X.K P sg r H r H' → Rep X.K (Lv P sg r) H' w z → Q w H') → ixB X v u H Q
theorem ixS : IxS X fIx := by
  intro P sg H r v u x y z Q S hx hy hz hq
  unfold fIx at hz
  split at hz
  · obtain ⟨p, vs, rfl, h1, r1, _⟩ := hx.list
    obtain ⟨w, h2, h3⟩ := r1.atI hz
    exact ⟨_, ix_list, p, vs, _, w, rfl, hy.int, h1, h2, hq w H (Ext.refl S) h3⟩
  · obtain ⟨p, vs, rfl, h1, r1⟩ := hx.tuple
    obtain ⟨w, h2, h3⟩ := r1.atI hz
    exact ⟨_, ix_tup, p, vs, _, w, rfl, hy.int, h1, h2, hq w H (Ext.refl S) h3⟩
  · split at hz
    · rename_i hl
      split at hz
      · rename_i c e
        cases hz
        exact ⟨_, ix_str, _, _, c, hx.str.1, hy.int, hl, e, hq _ H (Ext.refl S) (.str _ (strOk_one hx.str.2 e))⟩
      · cases hz
    · cases hz
  · cases hz
theorem okE_ix {oa ob : Opd} (ha : OkO X a oa) (hb : OkO X b ob) (hs : PlainIx b) : OkE X (.Subscript a b pos) (mBin true oa ob fIx) := by
  intro P sg H r Q d r' S hm hq
  unfold mBin at hm
  split at hm
  · rename_i x y r1 e1
    split at hm
    · rename_i z e2
      cases hm
      refine UE.of (pe_ix ixB_ok UE.pe UE.pe hs) (two_ok ha hb S e1 fun v u H2 E bx bq => ?_)
      exact ixS P sg H2 _ v u x y _ Q E.sim bx bq e2 fun w H' E' q => hq w H' (E.trans E') q
    · cases hm
  · cases hm
/-! a part of a slice -/
def partM : Option SE → Env → Option (Option Int × Env)
  | none, r => some (none, r)
  | some m, r => match m r with | some (.int i, r') => some (some i, r') | _ => none
def UO (X : Cx) (e : Option Expr) : TO := fun sg H Q => ∀ pins s, Inv X pins sg H s → wpAny (model X.prog X.w) X.A (evalPart e X.env) (fun u s' => ∃ o H', Inv X pins sg H' s' ∧ IsPart u o ∧ Q o H') X.xe s
theorem UO.po {X : Cx} {e : Option Expr} : PO X e (UO X e) := ⟨fun pins s _ _ _ I h => h pins s I⟩
theorem UO.of {X : Cx} {e : Option Expr} {t : TO} {sg H Q} (h : PO X e t) (q : t sg H Q) : UO X e sg H Q := fun pins s I => h.run pins s sg H Q I q
def OkP (X : Cx) (e : Option Expr) (m : Option SE) : Prop := ∀ (P : Addr → Prop) (sg : St) (H : Hp) (r : Env) (Q : Option Int → Hp → Prop) (o : Option Int) (r' : Env), Sim X.K P sg H r → partM m r = some (o, r') →
  (∀ H', Ext X.K P sg r H r' H' → Q o H') → UO X e sg H Q
theorem okP_none : OkP X none none := by
  intro P sg H r Q o r' S hm hq
  cases hm
  exact UO.of po_none (hq H (Ext.refl S))
theorem okP_some {m : SE} (h : OkE X e m) : OkP X (some e) (some m) := by
  intro P sg H r Q o r' S hm hq
  unfold partM at hm
  simp only at hm
  split at hm
  · rename_i i r1 e1
    cases hm
    refine UO.of (po_some UE.pe) (h P sg H r _ _ _ S e1 fun v H1 E1 q1 => ?_)
    cases q1
    exact ⟨i, rfl, hq H1 E1⟩
  · cases hm
def cutG {α : Type} (xs : List α) (lo hi : Option Int) : List α := (xs.drop (HT.sIx xs.length 0 lo)).take (HT.sIx xs.length xs.length hi - HT.sIx xs.length 0 lo)
theorem RepL.cut {K L H} {xs : List V} {ds : List D} (h : RepL K L H xs ds) (lo hi : Option Int) : RepL K L H (cutV xs lo hi) (cutG ds lo hi) := by
  unfold cutV cutG
  rw [h.length]
  exact (h.drop _).take _
theorem strOk_sub {z : Str} {l : List Nat} (h : PyData.strOk z = true) (hl : ∀ c ∈ l, c ∈ z.cps.toList) : PyData.strOk ⟨l.toArray⟩ = true := by
  unfold PyData.strOk at h ⊢
  rw [← Array.all_toList, List.all_eq_true] at h ⊢
  exact fun c hc => h c (hl c hc)
def fCut (x : D) (lo hi : Option Int) : Option D := match x with
  | .list ds => some (.list (cutG ds lo hi))
  | .tuple ds => some (.tuple (cutG ds lo hi))
  | .str z => if z.length ≤ sizeLine then some (.str (cutS z lo hi)) else none
  | _ => none
def slB (X : Cx) : V → Option Int → Option Int → Hp → VK → Prop := fun x lo hi H Q => ∃ r, SlR X r ∧ r x lo hi H Q
theorem slB_ok : SlR X (slB X) := by
  intro pins s sg H x v vl vu lo hi sl Q I rx hs pl pu q
  obtain ⟨r, hr, h⟩ := q
  exact hr pins s sg H x v vl vu lo hi sl Q I rx hs pl pu h
theorem cut_whole {α : Type} {xs : List α} {lo hi : Option Int} (h : HT.sIx xs.length 0 lo = 0 ∧ HT.sIx xs.length xs.length hi = xs.length) : cutG xs lo hi = xs := by
  unfold cutG
  rw [h.1, h.2]
  simp
theorem slS {P : Addr → Prop} {sg : St} {H : Hp} {r : Env} {v : V} {x z : D} {lo hi : Option Int} {Q : VK} (S : Sim X.K P sg H r) (hx : Bor true X.K (Lv P sg r) H v x) (hz : fCut x lo hi = some z)
    (hq : ∀ w H', Ext X.K P sg r H r H' → Rep X.K (Lv P sg r) H' w z → Q w H') : slB X v lo hi H Q := by
  unfold fCut at hz
  split at hz
  · cases hz
    obtain ⟨p, vs, rfl, h1, r1, _⟩ := hx.list
    exact ⟨_, sl_list, p, vs, rfl, h1, fun q hn => hq _ _ (S.new _ hn) (S.newLst hn (r1.cut lo hi))⟩
  · rename_i ds
    cases hz
    obtain ⟨p, vs, rfl, h1, r1⟩ := hx.tuple
    refine ⟨_, sl_tupA, p, vs, rfl, h1, fun hw => ?_, fun _ q hn => hq _ _ (S.new _ hn) (S.newTup hn (r1.cut lo hi))⟩
    rw [r1.length] at hw
    have e : cutG ds lo hi = ds := cut_whole hw
    rw [e] at hq
    refine hq _ H (Ext.refl S) ?_
    cases hx with | rep hx => exact hx
  · split at hz
    · rename_i hl
      cases hz
      refine ⟨_, sl_str, _, hx.str.1, hl, hq _ H (Ext.refl S) (.str _ (strOk_sub hx.str.2 fun c hc => ?_))⟩
      exact List.mem_of_mem_drop (List.mem_of_mem_take hc)
    · cases hz
  · cases hz
def mCut (oa : Opd) (lo hi : Option SE) : SE := fun r => if oa.here r then match oa.pre r with
  | some (x, r1) => match partM lo r1 with
    | some (l, r2) => match partM hi r2 with
      | some (h, r3) => match oa.post true x r3 with
        | some d => match fCut d l h with | some z => some (z, r3) | none => none
        | none => none
      | none => none
    | none => none
  | none => none else none
theorem okE_cut {oa : Opd} {lo hi : Option Expr} {ml mh : Option SE} {p2 : Pos} (ha : OkO X a oa) (hl : OkP X lo ml) (hh : OkP X hi mh) : OkE X (.Subscript a (.Slice lo hi none p2) pos) (mCut oa ml mh) := by
  intro P sg H r Q d r' S hm hq
  unfold mCut at hm
  split at hm
  · rename_i h0
    split at hm
    · rename_i x r1 e1
      split at hm
      · rename_i l r2 e2
        split at hm
        · rename_i h r3 e3
          split at hm
          · rename_i d' e4
            split at hm
            · rename_i z e5
              cases hm
              refine UE.of (pe_slice slB_ok UE.pe UO.po UO.po) ?_
              refine ha P sg H r _ _ _ S e1 (fun v H1 E1 q1 => ?_) (here_of h0)
              refine hl P sg H1 r1 _ _ _ E1.sim e2 fun H2 E2 => ?_
              refine hh P sg H2 r2 _ _ _ E2.sim e3 fun H3 E3 => ?_
              have b1 := ((q1.ext E2).ext E3).done E3.sim e4
              exact slS E3.sim b1 e5 fun w H' E' q => hq w H' (((E1.trans E2).trans E3).trans E') q
            · cases hm
          · cases hm
        · cases hm
      · cases hm
    · cases hm
  · cases hm
def mRev (oa : Opd) : SE := fun r => if oa.here r then match oa.pre r with
  | some (x, r1) => match oa.post true x r1 with
    | some (.list ds) => some (.list ds.reverse, r1)
    | _ => none
  | none => none else none
theorem okE_rev {oa : Opd} {k : Nat} {p1 p2 p3 : Pos} (ha : OkO X a oa) : OkE X (.Subscript a (.Slice none none (some (.UnaryOp .USub (.Constant (.int 1) k p1) p2)) p3) pos) (mRev oa) := by
  intro P sg H r Q d r' S hm hq
  unfold mRev at hm
  split at hm
  · rename_i h0
    split at hm
    · rename_i x r1 e1
      split at hm
      · rename_i ds e2
        cases hm
        refine UE.of (pe_revL UE.pe) (ha P sg H r _ _ _ S e1 (fun v H1 E1 q1 => ?_) (here_of h0))
        obtain ⟨p, vs, rfl, h1, r1, _⟩ := (q1.done E1.sim e2).list
        exact ⟨p, vs, rfl, h1, fun q hn => hq _ _ (E1.trans (E1.sim.new _ hn)) (E1.sim.newLst hn r1.reverse)⟩
      · cases hm
    · cases hm
  · cases hm
end
end DL

namespace DL
open PySem PySem.Spec L2

/-! ### several operands -/
def preAll : List Opd → Env → Option (List (Option D) × Env)
  | [], r => some ([], r)
  | o :: os, r => if o.here r then match o.pre r with
    | some (x, r1) => match preAll os r1 with | some (xs, r2) => some (x :: xs, r2) | none => none
    | none => none else none
def postAll (s : Bool) : List Opd → List (Option D) → Env → Option (List D)
  | [], [], _ => some []
  | o :: os, x :: xs, r => match o.post s x r with
    | some d => match postAll s os xs r with | some ds => some (d :: ds) | none => none
    | none => none
  | _, _, _ => none
def PendL (K : PySem.W.Frag) (P : Addr → Prop) (sg : St) : List Opd → List V → List (Option D) → Env → Hp → Prop
  | [], vs, xs, _, _ => vs = [] ∧ xs = []
  | o :: os, vs, xs, r, H => ∃ v vs' x xs', vs = v :: vs' ∧ xs = x :: xs' ∧ Pend K P sg o v x r H ∧ PendL K P sg os vs' xs' r H
theorem PendL.ext {K : PySem.W.Frag} {P : Addr → Prop} {sg : St} {r r' : Env} {H H' : Hp} (E : Ext K P sg r H r' H') : ∀ {os : List Opd} {vs : List V} {xs : List (Option D)}, PendL K P sg os vs xs r H → PendL K P sg os vs xs r' H'
  | [], _, _, h => h
  | o :: os, _, _, ⟨v, vs', x, xs', e1, e2, h1, h2⟩ => ⟨v, vs', x, xs', e1, e2, h1.ext E, PendL.ext E h2⟩
inductive BorL (s : Bool) (K : PySem.W.Frag) (L : Addr → Prop) (H : Hp) : List V → List D → Prop
  | nil : BorL s K L H [] []
  | cons {v : V} {vs : List V} {d : D} {ds : List D} : Bor s K L H v d → BorL s K L H vs ds → BorL s K L H (v :: vs) (d :: ds)
theorem PendL.done {s : Bool} {K : PySem.W.Frag} {P : Addr → Prop} {sg : St} {r : Env} {H : Hp} (S : Sim K P sg H r) : ∀ {os : List Opd} {vs : List V} {xs : List (Option D)} {ds : List D}, PendL K P sg os vs xs r H → postAll s os xs r = some ds → BorL s K (Lv P sg r) H vs ds
  | [], _, _, _, ⟨rfl, rfl⟩, e => by cases e; exact .nil
  | o :: os, _, _, _, ⟨v, vs', x, xs', rfl, rfl, h1, h2⟩, e => by
    unfold postAll at e
    split at e
    · rename_i d e1
      split at e
      · rename_i ds' e2
        cases e
        exact .cons (h1.done S e1) (PendL.done S h2 e2)
      · cases e
    · cases e
def OkAO (X : Cx) (es : List Expr) (os : List Opd) : Prop := ∀ (P : Addr → Prop) (sg : St) (H : Hp) (r : Env) (Q : List V → Hp → Prop) (xs : List (Option D)) (r' : Env), Sim X.K P sg H r → preAll os r = some (xs, r') →
  (∀ vs H', Ext X.K P sg r H r' H' → PendL X.K P sg os vs xs r' H' → Q vs H') → UA X es sg H Q
section
variable {X : Cx} {e : Expr} {es : List Expr} {pos p : Pos} {x : Str}
theorem okAO_nil : OkAO X [] [] := by
  intro P sg H r Q xs r' S hm hq
  cases hm
  exact UA.of pa_nil (hq [] H (Ext.refl S) ⟨rfl, rfl⟩)
theorem okAO_cons {o : Opd} {os : List Opd} (h : OkO X e o) (hn : OkAO X es os) (hs : starEach (e :: es) X.env = (false, eval e X.env) :: starEach es X.env) : OkAO X (e :: es) (o :: os) := by
  intro P sg H r Q xs r' S hm hq
  unfold preAll at hm
  split at hm
  · rename_i h0
    split at hm
    · rename_i y r1 e1
      split at hm
      · rename_i ys r2 e2
        cases hm
        refine UA.of (pa_cons UE.pe UA.pa hs) ?_
        refine h P sg H r _ _ _ S e1 (fun v H1 E1 q1 => ?_) (here_of h0)
        refine hn P sg H1 r1 _ _ _ E1.sim e2 fun vs H2 E2 q2 => ?_
        exact hq (v :: vs) H2 (E1.trans E2) ⟨v, vs, y, ys, rfl, rfl, q1.ext E2, q2⟩
      · cases hm
    · cases hm
  · cases hm
/-! ### built-in functions -/
def CallS (s : Bool) (X : Cx) (f : Value) (g : List D → Option D) : Prop := ∀ (P : Addr → Prop) (sg : St) (H : Hp) (r : Env) (vs : List V) (ds : List D) (z : D) (Q : VK), Sim X.K P sg H r →
  BorL s X.K (Lv P sg r) H vs ds → g ds = some z → (∀ w H', Ext X.K P sg r H r H' → Rep X.K (Lv P sg r) H' w z → Q w H') → caB X f vs H Q
def mCall (s : Bool) (os : List Opd) (g : List D → Option D) : SE := fun r => match preAll os r with
  | some (xs, r') => match postAll s os xs r' with
    | some ds => match g ds with | some z => some (z, r') | none => none
    | none => none
  | none => none
structure NoStar (X : Cx) (e : Expr) (es : List Expr) (pos : Pos) : Prop where
  he : starEach (e :: es) X.env = (false, eval e X.env) :: starEach es X.env
  hpl : (backTo pos (starEach es X.env)).any (·.1) = false
theorem okE_callB {s : Bool} {os : List Opd} {g : List D → Option D} {id : String} (hc : CallS s X (.builtin id) g) (hg : Gl X x) (hm' : X.mg x = none) (hv : bootBuiltins x = some (.builtin id)) (ha : OkAO X (e :: es) os) (hn : x ≠ "__name__") (hdb : (x == ("__debug__" : Str)) = false)
    (N : NoStar X e es pos) : OkE X (.Call (.Name x p) (e :: es) [] pos) (mCall s os g) := by
  intro P sg H r Q d r' S hm hq
  unfold mCall at hm
  split at hm
  · rename_i xs r1 e1
    split at hm
    · rename_i ds e2
      split at hm
      · rename_i z e3
        cases hm
        refine UE.of (pe_callB caB_ok hg hm' hv UA.pa hn hdb N.he N.hpl) (ha P sg H r _ _ _ S e1 fun vs H1 E1 q1 => ?_)
        exact hc P sg H1 _ vs ds _ Q E1.sim (q1.done E1.sim e2) e3 fun w H' E' q => hq w H' (E1.trans E') q
      · cases hm
    · cases hm
  · cases hm
theorem okE_callTy {s : Bool} {os : List Opd} {g : List D → Option D} {id : String} (hc : CallS s X (.type id) g) (hg : Gl X x) (hm' : X.mg x = none) (hv : bootBuiltins x = some (.type id)) (ha : OkAO X (e :: es) os) (hn : x ≠ "__name__") (hdb : (x == ("__debug__" : Str)) = false)
    (N : NoStar X e es pos) : OkE X (.Call (.Name x p) (e :: es) [] pos) (mCall s os g) := by
  intro P sg H r Q d r' S hm hq
  unfold mCall at hm
  split at hm
  · rename_i xs r1 e1
    split at hm
    · rename_i ds e2
      split at hm
      · rename_i z e3
        cases hm
        refine UE.of (pe_callTy caB_ok hg hm' hv UA.pa hn hdb N.he N.hpl) (ha P sg H r _ _ _ S e1 fun vs H1 E1 q1 => ?_)
        exact hc P sg H1 _ vs ds _ Q E1.sim (q1.done E1.sim e2) e3 fun w H' E' q => hq w H' (E1.trans E') q
      · cases hm
    · cases hm
  · cases hm
theorem BorL.one {s K L H} {vs : List V} {d : D} (h : BorL s K L H vs [d]) : ∃ v, vs = [v] ∧ Bor s K L H v d := by
  cases h with | cons h t => cases t; exact ⟨_, rfl, h⟩
theorem BorL.two {s K L H} {vs : List V} {d d' : D} (h : BorL s K L H vs [d, d']) : ∃ v v', vs = [v, v'] ∧ Bor s K L H v d ∧ Bor s K L H v' d' := by
  cases h with | cons h t => cases t with | cons h' t => cases t; exact ⟨_, _, rfl, h, h'⟩
def fLen : List D → Option D
  | [.list xs] => some (.int xs.length)
  | [.tuple xs] => some (.int xs.length)
  | [.str x] => if x.length ≤ sizeLine then some (.int x.length) else none
  | _ => none
theorem callS_len : CallS true X (.builtin "len") fLen := by
  intro P sg H r vs ds z Q S hb hz hq
  unfold fLen at hz
  split at hz
  · cases hz
    obtain ⟨v, rfl, h⟩ := hb.one
    obtain ⟨a, us, rfl, h1, r1, _⟩ := h.list
    refine ⟨_, call_len, _, _, rfl, .inl ⟨us, h1, rfl⟩, ?_⟩
    rw [r1.length]
    exact hq _ H (Ext.refl S) (.int _)
  · cases hz
    obtain ⟨v, rfl, h⟩ := hb.one
    obtain ⟨a, us, rfl, h1, r1⟩ := h.tuple
    refine ⟨_, call_len, _, _, rfl, .inr ⟨us, h1, rfl⟩, ?_⟩
    rw [r1.length]
    exact hq _ H (Ext.refl S) (.int _)
  · split at hz
    · rename_i hl
      cases hz
      obtain ⟨v, rfl, h⟩ := hb.one
      cases h.str.1
      exact ⟨_, call_len, _, _, rfl, ⟨hl, rfl⟩, hq _ H (Ext.refl S) (.int _)⟩
    · cases hz
  · cases hz
def fInt : List D → Option D
  | [.int i] => some (.int i)
  | [.bool b] => some (.int (if b then 1 else 0))
  | _ => none
theorem callS_int : CallS true X (.type "int") fInt := by
  intro P sg H r vs ds z Q S hb hz hq
  unfold fInt at hz
  split at hz
  · cases hz
    obtain ⟨v, rfl, h⟩ := hb.one
    cases h.int
    exact ⟨_, call_int1, .inl ⟨_, rfl, hq _ H (Ext.refl S) (.int _)⟩⟩
  · cases hz
    obtain ⟨v, rfl, h⟩ := hb.one
    cases h.bool
    exact ⟨_, call_int1, .inr ⟨_, rfl, hq _ H (Ext.refl S) (.int _)⟩⟩
  · cases hz
def fAbs : List D → Option D
  | [.int i] => some (.int (if i < 0 then -i else i))
  | _ => none
theorem callS_abs : CallS true X (.builtin "abs") fAbs := by
  intro P sg H r vs ds z Q S hb hz hq
  unfold fAbs at hz
  split at hz
  · cases hz
    obtain ⟨v, rfl, h⟩ := hb.one
    cases h.int
    exact ⟨_, call_abs, _, rfl, hq _ H (Ext.refl S) (.int _)⟩
  · cases hz
def fMin : List D → Option D
  | [.int i, .int j] => some (.int (if j < i then j else i))
  | _ => none
theorem callS_min (hc : X.calm = true) : CallS true X (.builtin "min") fMin := by
  intro P sg H r vs ds z Q S hb hz hq
  unfold fMin at hz
  split at hz
  · cases hz
    obtain ⟨v, u, rfl, h, h'⟩ := hb.two
    cases h.int
    cases h'.int
    exact ⟨_, call_min2 hc, _, _, rfl, hq _ H (Ext.refl S) (.int _)⟩
  · cases hz
def fMax : List D → Option D
  | [.int i, .int j] => some (.int (if j > i then j else i))
  | _ => none
theorem callS_max (hc : X.calm = true) : CallS true X (.builtin "max") fMax := by
  intro P sg H r vs ds z Q S hb hz hq
  unfold fMax at hz
  split at hz
  · cases hz
    obtain ⟨v, u, rfl, h, h'⟩ := hb.two
    cases h.int
    cases h'.int
    exact ⟨_, call_max2 hc, _, _, rfl, hq _ H (Ext.refl S) (.int _)⟩
  · cases hz
def fTuple : List D → Option D
  | [.list xs] => some (.tuple xs)
  | [.tuple xs] => some (.tuple xs)
  | _ => none
theorem callS_tuple : CallS true X (.type "tuple") fTuple := by
  intro P sg H r vs ds z Q S hb hz hq
  unfold fTuple at hz
  split at hz
  · cases hz
    obtain ⟨v, rfl, h⟩ := hb.one
    obtain ⟨a, us, rfl, h1, r1, _⟩ := h.list
    exact ⟨_, call_tuple_of, a, us, rfl, .inl ⟨h1, fun l hl => hq _ _ (S.new _ hl) (S.newTup hl r1)⟩⟩
  · cases hz
    obtain ⟨v, rfl, h⟩ := hb.one
    obtain ⟨a, us, rfl, h1, r1⟩ := h.tuple
    refine ⟨_, call_tuple_of, a, us, rfl, .inr ⟨h1, hq _ _ (Ext.refl S) ?_⟩⟩
    cases h with | rep h => exact h
  · cases hz
def boolsOf : List D → Option (List Bool)
  | [] => some []
  | .bool b :: r => match boolsOf r with | some bs => some (b :: bs) | none => none
  | _ => none
theorem boolsOf_rep {K L H} : ∀ {vs : List V} {ds : List D} {bs : List Bool}, RepL K L H vs ds → boolsOf ds = some bs → vs = bs.map V.bl
  | _, _, _, .nil, e => by cases e; rfl
  | _, _, _, .cons r t, e => by
    cases r with
    | bl b =>
      unfold boolsOf at e
      split at e
      · rename_i bs' e1
        cases e
        rw [boolsOf_rep t e1]
        rfl
      · cases e
    | _ => cases e
def fAll : List D → Option D
  | [.list xs] => match boolsOf xs with | some bs => some (.bool (bs.all id)) | none => none
  | _ => none
def fAny : List D → Option D
  | [.list xs] => match boolsOf xs with | some bs => some (.bool (bs.any id)) | none => none
  | _ => none
theorem callS_all (hc : X.calm = true) : CallS true X (.builtin "all") fAll := by
  intro P sg H r vs ds z Q S hb hz hq
  unfold fAll at hz
  split at hz
  · split at hz
    · rename_i bs e
      cases hz
      obtain ⟨v, rfl, h⟩ := hb.one
      obtain ⟨a, us, rfl, h1, r1, _⟩ := h.list
      rw [boolsOf_rep r1 e] at h1
      exact ⟨_, cr_all hc, a, bs, rfl, h1, hq _ H (Ext.refl S) (.bl _)⟩
    · cases hz
  · cases hz
theorem callS_any (hc : X.calm = true) : CallS true X (.builtin "any") fAny := by
  intro P sg H r vs ds z Q S hb hz hq
  unfold fAny at hz
  split at hz
  · split at hz
    · rename_i bs e
      cases hz
      obtain ⟨v, rfl, h⟩ := hb.one
      obtain ⟨a, us, rfl, h1, r1, _⟩ := h.list
      rw [boolsOf_rep r1 e] at h1
      exact ⟨_, cr_any hc, a, bs, rfl, h1, hq _ H (Ext.refl S) (.bl _)⟩
    · cases hz
  · cases hz
/-! list(x): a new list -/
def nList (o : Opd) : SA := fun r => if o.here r then match o.pre r with
  | some (y, r') => match o.post true y r' with
    | some (.list xs) => some (xs, r')
    | some (.tuple xs) => some (xs, r')
    | _ => none
  | none => none else none
theorem okN_list {o : Opd} (hg : Gl X "list") (hm' : X.mg "list" = none) (h : OkO X e o) (N : NoStar X e [] pos) : OkN X (.Call (.Name "list" p) [e] [] pos) (nList o) := by
  intro P sg H r Q ds r' S hm hq
  have ha : OkAO X [e] [o] := okAO_cons h okAO_nil N.he
  unfold nList at hm
  split at hm
  · rename_i h0
    split at hm
    · rename_i y r1 e1
      have e1' : preAll [o] r = some ([y], r1) := by
        unfold preAll preAll
        rw [if_pos h0, e1]
      split at hm
      · rename_i xs e2
        cases hm
        refine UE.of (pe_callTy (caB_ok (f := .type "list")) hg hm' (by decide +kernel) UA.pa (by decide) (by decide) N.he N.hpl) (ha P sg H r _ _ _ S e1' fun vs H1 E1 q1 => ?_)
        obtain ⟨v, vs', x', xs', rfl, ex, q1, rfl, _⟩ := q1
        cases ex
        obtain ⟨a, us, rfl, h1, rr, _⟩ := (q1.done E1.sim e2).list
        exact ⟨_, call_list_of, a, us, rfl, .inl h1, fun l hl => hq l us _ (E1.newL hl rr)⟩
      · rename_i xs e2
        cases hm
        refine UE.of (pe_callTy (caB_ok (f := .type "list")) hg hm' (by decide +kernel) UA.pa (by decide) (by decide) N.he N.hpl) (ha P sg H r _ _ _ S e1' fun vs H1 E1 q1 => ?_)
        obtain ⟨v, vs', x', xs', rfl, ex, q1, rfl, _⟩ := q1
        cases ex
        obtain ⟨a, us, rfl, h1, rr⟩ := (q1.done E1.sim e2).tuple
        exact ⟨_, call_list_of, a, us, rfl, .inr h1, fun l hl => hq l us _ (E1.newL hl rr)⟩
      · cases hm
    · cases hm
  · cases hm
/-! ### isinstance -/
def tyName : D → String
  | .none => "NoneType"
  | .bool _ => "bool"
  | .int _ => "int"
  | .str _ => "str"
  | .list _ => "list"
  | .tuple _ => "tuple"
  | .dict _ => "dict"
def isT (d : D) (t : String) : Option Bool := match d with
  | .none => if t = "int" ∨ t = "bool" ∨ t = "str" ∨ t = "list" ∨ t = "tuple" then some false else none
  | .bool _ => if t = "int" ∨ t = "bool" then some true else if t = "str" ∨ t = "list" ∨ t = "tuple" then some false else none
  | .int _ => if t = "int" then some true else if t = "bool" ∨ t = "str" ∨ t = "list" ∨ t = "tuple" then some false else none
  | .str _ => if t = "str" then some true else if t = "bool" ∨ t = "int" ∨ t = "list" ∨ t = "tuple" then some false else none
  | .list _ => if t = "list" then some true else if t = "bool" ∨ t = "int" ∨ t = "str" ∨ t = "tuple" then some false else none
  | .tuple _ => if t = "tuple" then some true else if t = "bool" ∨ t = "int" ∨ t = "str" ∨ t = "list" then some false else none
  | .dict _ => none
theorem isT_ok {d : D} {t : String} {b : Bool} (h : isT d t = some b) : kitB (tyName d) t = some b := by
  have k : ∀ a ∈ ["NoneType", "bool", "int", "str", "list", "tuple"], ∀ c ∈ ["bool", "int", "str", "list", "tuple"], kitB a c = some (a == c || (a == "bool" && c == "int")) := by decide +kernel
  cases d <;> unfold isT at h <;> simp only at h
  · split at h
    · rename_i q; cases h; rcases q with q | q | q | q | q <;> subst q <;> exact k _ (by simp [tyName]) _ (by simp)
    · cases h
  · split at h
    · rename_i q; cases h; rcases q with q | q <;> subst q <;> exact k _ (by simp [tyName]) _ (by simp)
    · split at h
      · rename_i q; cases h; rcases q with q | q | q <;> subst q <;> exact k _ (by simp [tyName]) _ (by simp)
      · cases h
  · split at h
    · rename_i q; cases h; subst q; exact k _ (by simp [tyName]) _ (by simp)
    · split at h
      · rename_i q; cases h; rcases q with q | q | q | q <;> subst q <;> exact k _ (by simp [tyName]) _ (by simp)
      · cases h
  · split at h
    · rename_i q; cases h; subst q; exact k _ (by simp [tyName]) _ (by simp)
    · split at h
      · rename_i q; cases h; rcases q with q | q | q | q <;> subst q <;> exact k _ (by simp [tyName]) _ (by simp)
      · cases h
  · split at h
    · rename_i q; cases h; subst q; exact k _ (by simp [tyName]) _ (by simp)
    · split at h
      · rename_i q; cases h; rcases q with q | q | q | q <;> subst q <;> exact k _ (by simp [tyName]) _ (by simp)
      · cases h
  · split at h
    · rename_i q; cases h; subst q; exact k _ (by simp [tyName]) _ (by simp)
    · split at h
      · rename_i q; cases h; rcases q with q | q | q | q <;> subst q <;> exact k _ (by simp [tyName]) _ (by simp)
      · cases h
  · cases h
theorem Bor.ty {s K L H} {v : V} {d : D} (h : Bor s K L H v d) : TyX K H v (.type (tyName d)) := by
  cases h with
  | rep h =>
    cases h with
    | non => exact .base .non
    | bl b => exact .base (.bl b)
    | int i => exact .base (.int i)
    | str x _ => exact .base (.str x)
    | lst h _ _ => exact .base (.lst h)
    | tup h _ _ => exact .base (.tup h)
    | ktup h _ => obtain ⟨o, _, _, h1, h2, _⟩ := h; exact .kTuple h1 h2
  | own h _ => exact .base (.lst h)
  | scr _ h =>
    rcases h with ⟨o, h, _⟩ | ⟨o, its, n, h1, h2, h3, h4, h5, h6⟩
    · exact .base (.frz h)
    · exact .kList h1 h2
def mIsi (o : Opd) (f : D → Option Bool) : SE := fun r => if o.here r then match o.pre r with
  | some (y, r') => match o.post true y r' with
    | some d => match f d with | some b => some (.bool b, r') | none => none
    | none => none
  | none => none else none
/-- a built-in type by its name -/
structure IsTy (X : Cx) (x : Str) (t : String) : Prop where
  g : Gl X x
  m : X.mg x = none
  v : bootBuiltins x = some (.type t)
  n : x ≠ "__name__"
  d : (x == ("__debug__" : Str)) = false
theorem okE_isi1 {o : Opd} {y : Str} {t : String} {py pf : Pos} (hg : Gl X "isinstance") (hm' : X.mg "isinstance" = none) (h : OkO X e o) (T : IsTy X y t)
    (N : NoStar X e [.Name y py] pos) : OkE X (.Call (.Name "isinstance" pf) [e, .Name y py] [] pos) (mIsi o fun d => isT d t) := by
  intro P sg H r Q d r' S hm hq
  unfold mIsi at hm
  split at hm
  · rename_i h0
    split at hm
    · rename_i z r1 e1
      split at hm
      · rename_i d' e2
        split at hm
        · rename_i b e3
          cases hm
          refine UE.of (pe_callB (caB_ok (f := .builtin "isinstance")) hg hm' (by decide +kernel) (pa_cons UE.pe (pa_cons (pe_bltn (v := .ty t) T.g T.m T.v rfl T.n T.d) pa_nil rfl) N.he) (by decide) (by decide) N.he N.hpl) ?_
          refine h P sg H r _ _ _ S e1 (fun v H1 E1 q1 => ?_) (here_of h0)
          exact ⟨_, call_isi, v, .ty t, .type (tyName d'), .type t, b, rfl, .ty t, (q1.done E1.sim e2).ty, kit_ty (isT_ok e3), hq _ H1 E1 (.bl _)⟩
        · cases hm
      · cases hm
    · cases hm
  · cases hm
def isT2 (t u : String) (d : D) : Option Bool := match isT d t with
  | some true => some true
  | some false => isT d u
  | none => none
theorem isT2_ok {K : PySem.W.Frag} {d : D} {t u : String} {b : Bool} (h : isT2 t u d = some b) : PySem.W.kitAny K (.type (tyName d)) [.type t, .type u] = some b := by
  unfold isT2 at h
  split at h
  · rename_i e
    cases h
    exact kitAny_cons (kit_ty (isT_ok e)) (fun z => nomatch z) fun _ => rfl
  · rename_i e
    refine kitAny_cons (kit_ty (isT_ok e)) (fun _ => ?_) (fun z => nomatch z)
    refine kitAny_cons (kit_ty (isT_ok h)) (fun z => ?_) (fun z => z)
    subst z; rfl
  · cases h
theorem okE_isi2 {o : Opd} {y w : Str} {t u : String} {py pw pt pf : Pos} {k : Nat} (hg : Gl X "isinstance") (hm' : X.mg "isinstance" = none) (h : OkO X e o) (T : IsTy X y t) (U : IsTy X w u)
    (N : NoStar X e [.Tuple [.Name y py, .Name w pw] k pt] pos) : OkE X (.Call (.Name "isinstance" pf) [e, .Tuple [.Name y py, .Name w pw] k pt] [] pos) (mIsi o (isT2 t u)) := by
  intro P sg H r Q d r' S hm hq
  unfold mIsi at hm
  split at hm
  · rename_i h0
    split at hm
    · rename_i z r1 e1
      split at hm
      · rename_i d' e2
        split at hm
        · rename_i b e3
          cases hm
          refine UE.of (pe_callB (caB_ok (f := .builtin "isinstance")) hg hm' (by decide +kernel) (pa_cons UE.pe (pa_cons (pe_tup (pa_cons (pe_bltn (v := .ty t) T.g T.m T.v rfl T.n T.d) (pa_cons (pe_bltn (v := .ty u) U.g U.m U.v rfl U.n U.d) pa_nil rfl) rfl)) pa_nil rfl) N.he) (by decide) (by decide) N.he N.hpl) ?_
          refine h P sg H r _ _ _ S e1 (fun v H1 E1 q1 => ?_) (here_of h0)
          refine ⟨by show 2 ≤ sizeLine; decide, fun q hn => ?_⟩
          have E2 := E1.sim.new (.tup [.ty t, .ty u]) hn
          exact ⟨_, call_isiT, v, q, [.ty t, .ty u], .type (tyName d'), [.type t, .type u], b, rfl, upd_same, .cons (.ty t) (.cons (.ty u) .nil), ((q1.ext E2).done E2.sim e2).ty, isT2_ok e3, hq _ _ (E1.trans E2) (.bl _)⟩
        · cases hm
      · cases hm
    · cases hm
  · cases hm
end
end DL

namespace DL
open PySem PySem.Spec L2

/-! ### what a loop walks -/
def Feeds (K : PySem.W.Frag) (L0 : Addr → Prop) (H0 : Hp) (J : It) (ds : List D) : Prop := ∀ (L : Addr → Prop) (H : Hp), Later L0 H0 L H → (∀ a, L a → ∃ o, H a = some o) → ∀ i : Nat,
  (∀ d, ds[i]? = some d → J.go i H ∧ ∀ x H', J.yld i H x H' → (∀ a o, H a = some o → H' a = some o) ∧ Rep K L H' x d) ∧ (ds.length = i → J.stop i H)
def OkI (X : Cx) (tg it : Expr) (m : SA) : Prop := ∀ (P : Addr → Prop) (sg : St) (H : Hp) (r : Env) (R : It → Hp → Prop) (ds : List D) (r' : Env), Sim X.K P sg H r → m r = some (ds, r') →
  (∀ J H', Ext X.K P sg r H r' H' → Feeds X.K (Lv P sg r') H' J ds → R J H') → UI X tg it sg H R
section
variable {K : PySem.W.Frag} {L : Addr → Prop} {H : Hp}
theorem feeds_list {a : Addr} {xs : List V} {ds : List D} (h : H a = some (.lst xs)) (n : ¬ L a) (r : RepL K L H xs ds) : Feeds K L H (Itl K a) ds := by
  intro L' H' la _ i
  have h' := (la a _ h n).1
  refine ⟨fun d hd => ?_, fun hi => ⟨xs, SqL.of h', by rw [r.length]; exact Nat.le_of_eq hi⟩⟩
  obtain ⟨u, hu, ru⟩ := r.get hd
  refine ⟨⟨xs, u, SqL.of h', hu⟩, fun x H2 y => ?_⟩
  obtain ⟨rfl, y⟩ := y
  have e := (y xs (SqL.of h')).symm.trans hu
  cases e
  exact ⟨fun _ _ q => q, ru.mono la⟩
theorem feeds_scr {a : Addr} {ns : List Int} (h : ScrAt K L H a ns) : Feeds K L H (Itl K a) (ns.map PyData.int) := by
  intro L' H' la _ i
  have sq : SqL K H' a (ns.map V.int) := (h.map fun o h2 h3 => la a _ h2 h3).sq
  have r : RepL K L H (ns.map V.int) (ns.map PyData.int) := repL_ints ns
  refine ⟨fun d hd => ?_, fun hi => ⟨_, sq, by rw [r.length]; exact Nat.le_of_eq hi⟩⟩
  obtain ⟨u, hu, ru⟩ := r.get hd
  refine ⟨⟨_, u, sq, hu⟩, fun x H2 y => ?_⟩
  obtain ⟨rfl, y⟩ := y
  have e := (y _ sq).symm.trans hu
  cases e
  exact ⟨fun _ _ q => q, ru.mono la⟩
theorem SqT.later {L' : Addr → Prop} {H' : Hp} {v : V} {ds : List D} (h : Rep K L H v (.tuple ds)) (la : Later L H L' H') : ∃ a xs, v = .ref a ∧ SqT K H a xs ∧ SqT K H' a xs ∧ RepL K L H xs ds := by
  cases h with
  | tup h n r => exact ⟨_, _, rfl, SqT.of h, SqT.of (la _ _ h n).1, r⟩
  | ktup h r => exact ⟨_, _, rfl, .inr h, .inr h, r⟩
theorem feeds_tup {a : Addr} {ds : List D} (h : Rep K L H (.ref a) (.tuple ds)) : Feeds K L H (Itt K a) ds := by
  intro L' H' la _ i
  obtain ⟨a', xs, e, _, sq, r⟩ := SqT.later h la
  cases e
  refine ⟨fun d hd => ?_, fun hi => ⟨xs, sq, by rw [r.length]; exact Nat.le_of_eq hi⟩⟩
  obtain ⟨u, hu, ru⟩ := r.get hd
  refine ⟨⟨xs, u, sq, hu⟩, fun x H2 y => ?_⟩
  obtain ⟨rfl, y⟩ := y
  have e := (y xs sq).symm.trans hu
  cases e
  exact ⟨fun _ _ q => q, ru.mono la⟩
def signs (z : Str) : List D := z.cps.toList.map fun c => PyData.str ⟨#[c]⟩
theorem feeds_str {z : Str} (hz : PyData.strOk z = true) : Feeds K L H (Its z) (signs z) := by
  intro L' H' la _ i
  refine ⟨fun d hd => ?_, fun hi => ?_⟩
  · unfold signs at hd
    rw [List.getElem?_map] at hd
    cases e : z.cps.toList[i]? with
    | none => rw [e] at hd; cases hd
    | some c =>
      rw [e] at hd
      cases hd
      have hlt : i < z.cps.size := by
        have := (List.getElem?_eq_some_iff.mp e).1
        simpa using this
      have e' : z.cps[i]? = some c := by rw [← Array.getElem?_toList]; exact e
      refine ⟨hlt, fun x H2 y => ?_⟩
      obtain ⟨rfl, c', hc', rfl⟩ := y
      rw [e'] at hc'
      cases hc'
      exact ⟨fun _ _ q => q, .str _ (strOk_sub (l := [c]) hz fun c' hc' => by rw [List.mem_singleton.mp hc']; exact List.mem_of_getElem? e)⟩
  · unfold signs at hi
    rw [List.length_map] at hi
    show z.cps.size ≤ i
    have hi := Nat.le_of_eq hi
    simpa using hi
def rangeD (lo : Int) (n : Nat) : List D := (List.range n).map fun (k : Nat) => PyData.int (lo + (k : Int))
theorem rangeD_length (lo : Int) (n : Nat) : (rangeD lo n).length = n := by unfold rangeD; simp
theorem feeds_range (lo : Int) (n : Nat) : Feeds K L H (Itr lo n) (rangeD lo n) := by
  intro L' H' la _ i
  refine ⟨fun d hd => ?_, fun hi => by rw [rangeD_length] at hi; exact Nat.le_of_eq hi⟩
  unfold rangeD at hd
  rw [List.getElem?_map] at hd
  cases e : (List.range n)[i]? with
  | none => rw [e] at hd; cases hd
  | some c =>
    rw [e] at hd
    cases hd
    obtain ⟨h1, h2⟩ := List.getElem?_eq_some_iff.mp e
    rw [List.getElem_range] at h2
    subst h2
    rw [List.length_range] at h1
    refine ⟨h1, fun x H2 y => ?_⟩
    obtain ⟨rfl, rfl⟩ := y
    exact ⟨fun _ _ q => q, .int _⟩
/-- pairs -/
def pairD : List D → List D → List D
  | x :: xs, y :: ys => PyData.tuple [x, y] :: pairD xs ys
  | _, _ => []
theorem pairD_get : ∀ {xs ys : List D} {i : Nat} {d : D}, (pairD xs ys)[i]? = some d → ∃ x y, xs[i]? = some x ∧ ys[i]? = some y ∧ d = .tuple [x, y]
  | [], _, _, _, h => by simp [pairD] at h
  | _ :: _, [], _, _, h => by simp [pairD] at h
  | x :: xs, y :: ys, 0, d, h => by simp [pairD] at h; exact ⟨x, y, rfl, rfl, h.symm⟩
  | x :: xs, y :: ys, i + 1, d, h => by
    have h : (pairD xs ys)[i]? = some d := by simpa [pairD] using h
    obtain ⟨a, b, h1, h2, h3⟩ := pairD_get h
    exact ⟨a, b, by simpa using h1, by simpa using h2, h3⟩
theorem pairD_length : ∀ (xs ys : List D), (pairD xs ys).length = min xs.length ys.length
  | [], _ => by simp [pairD]
  | _ :: _, [] => by simp [pairD]
  | x :: xs, y :: ys => by simp [pairD, pairD_length xs ys]
theorem feeds_zipT {a b : Addr} {xs ys : List D} (h : Rep K L H (.ref a) (.tuple xs)) (h' : Rep K L H (.ref b) (.tuple ys)) : Feeds K L H (RZ.ItzT K a b) (pairD xs ys) := by
  intro L' H' la hL i
  obtain ⟨_, us, e, _, sq, r⟩ := SqT.later h la
  cases e
  obtain ⟨_, ws, e, _, sq', r'⟩ := SqT.later h' la
  cases e
  refine ⟨fun d hd => ?_, fun hi => ⟨us, ws, sq, sq', ?_⟩⟩
  · obtain ⟨x, y, h1, h2, rfl⟩ := pairD_get hd
    obtain ⟨u, hu, ru⟩ := r.get h1
    obtain ⟨w, hw, rw'⟩ := r'.get h2
    refine ⟨⟨us, ws, u, w, sq, sq', hu, hw⟩, fun v H2 q => ?_⟩
    obtain ⟨T, x', y', rfl, nT, rfl, f1, f2⟩ := q
    have e1 : x' = u := Option.some.inj ((f1 _ sq).symm.trans hu)
    have e2 : y' = w := Option.some.inj ((f2 _ sq').symm.trans hw)
    rw [← e1] at ru
    rw [← e2] at rw'
    have g : ∀ a o, H' a = some o → upd H' T (.tup [x', y']) a = some o := upd_grow nT
    refine ⟨g, .tup upd_same (fun z => by obtain ⟨o, e⟩ := hL T z; rw [nT] at e; cases e) ?_⟩
    have la2 : Later L' H' L' (upd H' T (.tup [x', y'])) := fun a o h n => ⟨g a o h, n⟩
    exact .cons ((ru.mono la).mono la2) (.cons ((rw'.mono la).mono la2) .nil)
  · rw [pairD_length] at hi
    rw [r.length, r'.length]
    omega
theorem feeds_zipL {a b : Addr} {us ws : List V} {xs ys : List D} (h : H a = some (.lst us)) (n : ¬ L a) (r : RepL K L H us xs) (h' : H b = some (.lst ws)) (n' : ¬ L b) (r' : RepL K L H ws ys) : Feeds K L H (Itz K a b) (pairD xs ys) := by
  intro L' H' la hL i
  have sq : SqL K H' a us := SqL.of (la _ _ h n).1
  have sq' : SqL K H' b ws := SqL.of (la _ _ h' n').1
  refine ⟨fun d hd => ?_, fun hi => ⟨us, ws, sq, sq', ?_⟩⟩
  · obtain ⟨x, y, h1, h2, rfl⟩ := pairD_get hd
    obtain ⟨u, hu, ru⟩ := r.get h1
    obtain ⟨w, hw, rw'⟩ := r'.get h2
    refine ⟨⟨us, ws, u, w, sq, sq', hu, hw⟩, fun v H2 q => ?_⟩
    obtain ⟨T, x', y', rfl, nT, rfl, f1, f2⟩ := q
    have e1 : x' = u := Option.some.inj ((f1 _ sq).symm.trans hu)
    have e2 : y' = w := Option.some.inj ((f2 _ sq').symm.trans hw)
    rw [← e1] at ru
    rw [← e2] at rw'
    have g : ∀ a o, H' a = some o → upd H' T (.tup [x', y']) a = some o := upd_grow nT
    refine ⟨g, .tup upd_same (fun z => by obtain ⟨o, e⟩ := hL T z; rw [nT] at e; cases e) ?_⟩
    have la2 : Later L' H' L' (upd H' T (.tup [x', y'])) := fun a o h n => ⟨g a o h, n⟩
    exact .cons ((ru.mono la).mono la2) (.cons ((rw'.mono la).mono la2) .nil)
  · rw [pairD_length] at hi
    rw [r.length, r'.length]
    omega
def enumD (k : Nat) : List D → List D
  | [] => []
  | x :: xs => PyData.tuple [.int k, x] :: enumD (k + 1) xs
theorem enumD_get : ∀ {xs : List D} {k i : Nat} {d : D}, (enumD k xs)[i]? = some d → ∃ x, xs[i]? = some x ∧ d = .tuple [.int ((k + i : Nat) : Int), x]
  | [], _, _, _, h => by simp [enumD] at h
  | x :: xs, k, 0, d, h => by simp [enumD] at h; exact ⟨x, rfl, h.symm⟩
  | x :: xs, k, i + 1, d, h => by
    have h : (enumD (k + 1) xs)[i]? = some d := by simpa [enumD] using h
    obtain ⟨a, h1, h2⟩ := enumD_get h
    exact ⟨a, by simpa using h1, by rw [h2]; congr 3; omega⟩
theorem enumD_length : ∀ (k : Nat) (xs : List D), (enumD k xs).length = xs.length
  | _, [] => rfl
  | k, x :: xs => by simp [enumD, enumD_length (k + 1) xs]
theorem feeds_enum {a : Addr} {us : List V} {xs : List D} (h : H a = some (.lst us)) (n : ¬ L a) (r : RepL K L H us xs) : Feeds K L H (Ite K a) (enumD 0 xs) := by
  intro L' H' la hL i
  have sq : SqL K H' a us := SqL.of (la _ _ h n).1
  refine ⟨fun d hd => ?_, fun hi => ⟨us, sq, ?_⟩⟩
  · obtain ⟨x, h1, rfl⟩ := enumD_get hd
    obtain ⟨u, hu, ru⟩ := r.get h1
    refine ⟨⟨us, u, sq, hu⟩, fun v H2 q => ?_⟩
    obtain ⟨T, x', rfl, nT, rfl, f1⟩ := q
    have e1 : x' = u := Option.some.inj ((f1 _ sq).symm.trans hu)
    rw [← e1] at ru
    have g : ∀ a o, H' a = some o → upd H' T (.tup [.int (i : Nat), x']) a = some o := upd_grow nT
    refine ⟨g, .tup upd_same (fun z => by obtain ⟨o, e⟩ := hL T z; rw [nT] at e; cases e) ?_⟩
    have la2 : Later L' H' L' (upd H' T (.tup [.int (i : Nat), x'])) := fun a o h n => ⟨g a o h, n⟩
    rw [Nat.zero_add]
    exact .cons (.int _) (.cons ((ru.mono la).mono la2) .nil)
  · rw [enumD_length] at hi
    rw [r.length]
    exact Nat.le_of_eq hi
end
section
variable {X : Cx} {tg e e2 : Expr} {pos p : Pos}
theorem Ext.lvne {K : PySem.W.Frag} {P : Addr → Prop} {sg : St} {r r' : Env} {H H' : Hp} (E : Ext K P sg r H r' H') : ∀ a, Lv P sg r' a → ∃ o, H' a = Option.some o := E.sim.lv
def Opd.postD : Opd → Option D → Env → Option D
  | .ex _, x, _ => x
  | .sl i, _, r => match r[i]? with | some (some (.d x)) => some x | some (some (.scr ns)) => some (.list (ns.map PyData.int)) | _ => none
/-- not the script itself -/
def Opd.postR : Opd → Option D → Env → Option D
  | .ex _, x, _ => x
  | .sl i, _, r => match r[i]? with | some (some (.d x)) => some x | _ => none
theorem Pend.doneR {K : PySem.W.Frag} {P : Addr → Prop} {sg : St} {o : Opd} {v : V} {x : Option D} {r : Env} {H : Hp} {d : D} (S : Sim K P sg H r) (h : Pend K P sg o v x r H) (e : o.postR x r = some d) : Rep K (Lv P sg r) H v d := by
  cases o with
  | ex m =>
    obtain ⟨d', e', q⟩ := h
    cases e'.symm.trans e
    exact q
  | sl i =>
    have h : sg[i]? = some (some v) := h
    unfold Opd.postR at e
    simp only at e
    split at e
    · rename_i y e1
      cases e
      obtain ⟨u, h1, h2⟩ := S.dat i _ e1
      rw [h] at h1; cases h1
      exact h2
    · cases e
/-- a list, a tuple, a text -/
def iData (o : Opd) : SA := fun r => if o.here r then match o.pre r with
  | some (y, r') => match o.postD y r' with
    | some (.list xs) => some (xs, r')
    | some (.tuple xs) => some (xs, r')
    | some (.str z) => some (signs z, r')
    | _ => none
  | none => none else none
theorem Pend.doneD {K : PySem.W.Frag} {P : Addr → Prop} {sg : St} {o : Opd} {v : V} {x : Option D} {r : Env} {H : Hp} {d : D} (S : Sim K P sg H r) (h : Pend K P sg o v x r H) (e : o.postD x r = some d) :
    Rep K (Lv P sg r) H v d ∨ ∃ (a : Addr) (ns : List Int), v = .ref a ∧ d = .list (ns.map PyData.int) ∧ ScrAt K (Lv P sg r) H a ns := by
  cases o with
  | ex m =>
    obtain ⟨d', e', q⟩ := h
    cases e'.symm.trans e
    exact .inl q
  | sl i =>
    have h : sg[i]? = some (some v) := h
    unfold Opd.postD at e
    simp only at e
    split at e
    · rename_i y e1
      cases e
      obtain ⟨u, h1, h2⟩ := S.dat i _ e1
      rw [h] at h1; cases h1
      exact .inl h2
    · rename_i ns e1
      cases e
      obtain ⟨a, h1, h2⟩ := S.scr i _ e1
      rw [h] at h1; cases h1
      refine .inr ⟨a, ns, rfl, rfl, h2.map fun o h2 h3 => ⟨h2, fun z => z.elim h3 fun z => ?_⟩⟩
      obtain ⟨j, xs, j1, j2⟩ := z
      obtain ⟨b, vs, k1, k2, _⟩ := S.own j xs j1
      rw [j2] at k1; cases k1
      rw [h2] at k2; cases k2
    · cases e
theorem okI_data {o : Opd} (h : OkO X e o) : OkI X tg e (iData o) := by
  intro P sg H r R ds r' S hm hq
  unfold iData at hm
  split at hm
  · rename_i h0
    split at hm
    · rename_i y r1 e1
      split at hm
      · rename_i xs e2
        cases hm
        refine UI.of (pi_list UE.pe) (h P sg H r _ _ _ S e1 (fun v H1 E1 q1 => ?_) (here_of h0))
        rcases q1.doneD E1.sim e2 with q | ⟨a, ns, rfl, ed, q⟩
        · cases q with | lst h1 n1 r1 => exact ⟨_, rfl, ⟨_, SqL.of h1⟩, hq _ H1 E1 (feeds_list h1 n1 r1)⟩
        · cases ed
          exact ⟨_, rfl, ⟨_, q.sq⟩, hq _ H1 E1 (feeds_scr q)⟩
      · rename_i xs e2
        cases hm
        refine UI.of (pi_tup UE.pe) (h P sg H r _ _ _ S e1 (fun v H1 E1 q1 => ?_) (here_of h0))
        rcases q1.doneD E1.sim e2 with q | ⟨a, ns, rfl, ed, q⟩
        · obtain ⟨a, us, rfl, h1, _⟩ := q.tuple
          exact ⟨_, rfl, ⟨_, h1⟩, hq _ H1 E1 (feeds_tup q)⟩
        · cases ed
      · rename_i z e2
        cases hm
        refine UI.of (pi_str UE.pe) (h P sg H r _ _ _ S e1 (fun v H1 E1 q1 => ?_) (here_of h0))
        rcases q1.doneD E1.sim e2 with q | ⟨a, ns, rfl, ed, q⟩
        · cases q with | str x hx => exact ⟨_, rfl, hq _ H1 E1 (feeds_str hx)⟩
        · cases ed
      · cases hm
    · cases hm
  · cases hm
def iRange1 (m : SE) : SA := fun r => match m r with | some (.int n, r') => if -(2 ^ 62) ≤ n ∧ n < 2 ^ 62 then some (rangeD 0 n.toNat, r') else none | _ => none
theorem okI_range1 {m : SE} (hg : Gl X "range") (hm' : X.mg "range" = none) (h : OkE X e m) (hs : starEach [e] X.env = [(false, eval e X.env)]) : OkI X tg (.Call (.Name "range" p) [e] [] pos) (iRange1 m) := by
  intro P sg H r R ds r' S hm hq
  unfold iRange1 at hm
  split at hm
  · rename_i n r1 e1
    split at hm
    · rename_i hn
      cases hm
      refine UI.of (pi_range1 hg hm' (pa_cons UE.pe pa_nil hs) hs) (h P sg H r _ _ _ S e1 fun v H1 E1 q1 => ?_)
      cases q1
      exact ⟨n, rfl, hn.1, hn.2, hq _ H1 E1 (feeds_range 0 _)⟩
    · cases hm
  · cases hm
def iRange2 (m n : SE) : SA := fun r => match m r with
  | some (.int a, r1) => match n r1 with
    | some (.int b, r2) => if -(2 ^ 62) ≤ a ∧ a < 2 ^ 62 ∧ -(2 ^ 62) ≤ b ∧ b < 2 ^ 62 then some (rangeD a (b - a).toNat, r2) else none
    | _ => none
  | _ => none
theorem okI_range2 {m n : SE} (hg : Gl X "range") (hm' : X.mg "range" = none) (h : OkE X e m) (hn : OkE X e2 n) (hs : starEach [e, e2] X.env = [(false, eval e X.env), (false, eval e2 X.env)]) (hs2 : starEach [e2] X.env = [(false, eval e2 X.env)]) :
    OkI X tg (.Call (.Name "range" p) [e, e2] [] pos) (iRange2 m n) := by
  intro P sg H r R ds r' S hm hq
  unfold iRange2 at hm
  split at hm
  · rename_i a r1 e1
    split at hm
    · rename_i b r2 e3
      split at hm
      · rename_i hb
        cases hm
        refine UI.of (pi_range2 hg hm' (pa_cons UE.pe (pa_cons UE.pe pa_nil hs2) (by rw [hs, hs2])) hs hs2) (h P sg H r _ _ _ S e1 fun v H1 E1 q1 => hn P sg H1 r1 _ _ _ E1.sim e3 fun u H2 E2 q2 => ?_)
        cases q1
        cases q2
        exact ⟨a, b, rfl, hb, hq _ H2 (E1.trans E2) (feeds_range a _)⟩
      · cases hm
    · cases hm
  · cases hm
def iZip (o o2 : Opd) : SA := fun r => match preAll [o, o2] r with
  | some ([y, z], r') => match o.postR y r', o2.postR z r' with
    | some (.list xs), some (.list ys) => some (pairD xs ys, r')
    | some (.tuple xs), some (.tuple ys) => some (pairD xs ys, r')
    | _, _ => none
  | _ => none
theorem okI_zip {o o2 : Opd} {elts : List Expr} {kk : Nat} {tpos : Pos} (hg : Gl X "zip") (hm' : X.mg "zip" = none) (h : OkO X e o) (h2 : OkO X e2 o2)
    (N : NoStar X e [e2] pos) (N2 : NoStar X e2 [] pos) : OkI X (.Tuple elts kk tpos) (.Call (.Name "zip" p) [e, e2] [] pos) (iZip o o2) := by
  intro P sg H r R ds r' S hm hq
  have ha : OkAO X [e, e2] [o, o2] := okAO_cons h (okAO_cons h2 okAO_nil N2.he) N.he
  unfold iZip at hm
  split at hm
  · rename_i y z r1 e1
    split at hm
    · rename_i xs ys e3 e4
      cases hm
      refine UI.of (RZ.pi_zipA hg hm' UA.pa N.he N.hpl) (ha P sg H r _ _ _ S e1 fun vs H1 E1 q1 => ?_)
      obtain ⟨v, vs', y', ys', rfl, ey, p1, v2, vs2, y2, ys2, rfl, ey2, p2, rfl, _⟩ := q1
      cases ey
      cases ey2
      cases p1.doneR E1.sim e3 with
      | lst h1 n1 r1 =>
        cases p2.doneR E1.sim e4 with
        | lst h1' n1' r1' => exact ⟨_, _, _, _, rfl, .inl ⟨SqL.of h1, SqL.of h1', hq _ H1 E1 (feeds_zipL h1 n1 r1 h1' n1' r1')⟩⟩
    · rename_i xs ys e3 e4
      cases hm
      refine UI.of (RZ.pi_zipA hg hm' UA.pa N.he N.hpl) (ha P sg H r _ _ _ S e1 fun vs H1 E1 q1 => ?_)
      obtain ⟨v, vs', y', ys', rfl, ey, p1, v2, vs2, y2, ys2, rfl, ey2, p2, rfl, _⟩ := q1
      cases ey
      cases ey2
      have q := p1.doneR E1.sim e3
      have q' := p2.doneR E1.sim e4
      obtain ⟨a, us, rfl, h1, _⟩ := q.tuple
      obtain ⟨b, ws, rfl, h1', _⟩ := q'.tuple
      exact ⟨_, _, _, _, rfl, .inr ⟨h1, h1', hq _ H1 E1 (feeds_zipT q q')⟩⟩
    · cases hm
  · cases hm
def iEnumL (o : Opd) : SA := fun r => match preAll [o] r with
  | some ([y], r') => match o.postR y r' with
    | some (.list xs) => some (enumD 0 xs, r')
    | _ => none
  | _ => none
theorem okI_enumL {o : Opd} {elts : List Expr} {kk : Nat} {tpos : Pos} (hg : Gl X "enumerate") (hm' : X.mg "enumerate" = none) (h : OkO X e o)
    (N : NoStar X e [] pos) (hs : starEach [e] X.env = [(false, eval e X.env)]) : OkI X (.Tuple elts kk tpos) (.Call (.Name "enumerate" p) [e] [] pos) (iEnumL o) := by
  intro P sg H r R ds r' S hm hq
  have ha : OkAO X [e] [o] := okAO_cons h okAO_nil N.he
  unfold iEnumL at hm
  split at hm
  · rename_i y r1 e1
    split at hm
    · rename_i xs e3
      cases hm
      refine UI.of (pi_enum hg hm' UA.pa hs) (ha P sg H r _ _ _ S e1 fun vs H1 E1 q1 => ?_)
      obtain ⟨v, vs', y', ys', rfl, ey, p1, rfl, _⟩ := q1
      cases ey
      cases p1.doneR E1.sim e3 with
      | lst h1 n1 r1 => exact ⟨_, _, rfl, SqL.of h1, hq _ H1 E1 (feeds_enum h1 n1 r1)⟩
    · cases hm
  · cases hm
end
end DL

namespace DL
open PySem PySem.Spec L2

/-! ### targets -/
mutual
inductive Tg where
  | nm (i : Nat) | tup (ts : Tgs)
inductive Tgs where
  | nil | cons (t : Tg) (ts : Tgs)
end
mutual
def Tg.ix : Tg → List Nat
  | .nm i => [i]
  | .tup ts => ts.ix
def Tgs.ix : Tgs → List Nat
  | .nil => []
  | .cons t ts => t.ix ++ ts.ix
end
def Tgs.len : Tgs → Nat
  | .nil => 0
  | .cons _ ts => ts.len + 1
mutual
def Tg.bind : Tg → D → Env → Option Env
  | .nm i, x, r => match r[i]? with
    | some (some (.own _)) => none
    | some _ => some (r.set i (some (.d x)))
    | none => none
  | .tup ts, x, r => match x with
    | .tuple xs => if xs.length = ts.len then ts.bind xs r else none
    | _ => none
def Tgs.bind : Tgs → List D → Env → Option Env
  | .nil, [], r => some r
  | .cons t ts, x :: xs, r => match t.bind x r with
    | some r1 => ts.bind xs r1
    | none => none
  | .nil, _ :: _, _ => none
  | .cons _ _, [], _ => none
end
def wipeE (r : Env) : List Nat → Env
  | [] => r
  | v :: vs => (wipeE r vs).set v none
theorem wipeE_length (r : Env) : ∀ vs, (wipeE r vs).length = r.length
  | [] => rfl
  | v :: vs => by unfold wipeE; rw [List.length_set, wipeE_length r vs]
theorem wipeE_out (r : Env) {i : Nat} : ∀ {vs : List Nat}, i ∉ vs → (wipeE r vs)[i]? = r[i]?
  | [], _ => rfl
  | v :: vs, h => by
    unfold wipeE
    rw [List.getElem?_set_ne (fun e => h (by rw [e]; exact List.mem_cons_self)), wipeE_out r fun z => h (List.mem_cons_of_mem _ z)]
theorem wipeE_in (r : Env) {i : Nat} : ∀ {vs : List Nat}, i ∈ vs → ∀ y, (wipeE r vs)[i]? ≠ some (some y)
  | v :: vs, h, y, e => by
    unfold wipeE at e
    by_cases hv : v = i
    · subst hv
      by_cases hl : v < (wipeE r vs).length
      · rw [List.getElem?_set_self hl] at e; cases e
      · rw [List.getElem?_eq_none (by simpa using hl)] at e; cases e
    · rw [List.getElem?_set_ne hv] at e
      rcases List.mem_cons.mp h with z | z
      · exact hv z.symm
      · exact wipeE_in r z y e
theorem wipe_out (r : St) {i : Nat} : ∀ {vs : List Nat}, i ∉ vs → (wipe r vs)[i]? = r[i]?
  | [], _ => rfl
  | v :: vs, h => by
    unfold wipe
    rw [List.getElem?_set_ne (fun e => h (by rw [e]; exact List.mem_cons_self)), wipe_out r fun z => h (List.mem_cons_of_mem _ z)]
theorem wipe_ext {s t : St} (h : s.length = t.length) : ∀ (vs : List Nat), (∀ i, i ∉ vs → s[i]? = t[i]?) → wipe s vs = wipe t vs := by
  have key : ∀ (vs : List Nat) (i : Nat), i ∈ vs → i < s.length → (wipe s vs)[i]? = some none ∧ (wipe t vs)[i]? = some none := by
    intro vs
    induction vs with
    | nil => intro i hi; cases hi
    | cons v vs ih =>
      intro i hi hl
      unfold wipe
      by_cases hv : v = i
      · subst hv
        rw [List.getElem?_set_self (by rw [wipe_length]; exact hl), List.getElem?_set_self (by rw [wipe_length, ← h]; exact hl)]
        exact ⟨rfl, rfl⟩
      · rw [List.getElem?_set_ne hv, List.getElem?_set_ne hv]
        rcases List.mem_cons.mp hi with z | z
        · exact absurd z.symm hv
        · exact ih i z hl
  intro vs hs
  apply List.ext_getElem?
  intro i
  by_cases hi : i ∈ vs
  · by_cases hl : i < s.length
    · rw [(key vs i hi hl).1, (key vs i hi hl).2]
    · rw [List.getElem?_eq_none (by rw [wipe_length]; omega), List.getElem?_eq_none (by rw [wipe_length]; omega)]
  · rw [wipe_out s hi, wipe_out t hi]
    exact hs i hi
section
variable {K : PySem.W.Frag} {P : Addr → Prop} {sg sg' : St} {r r' : Env} {H H' : Hp}
def notOwn (r : Env) (i : Nat) : Bool := match r[i]? with | some (some (.own _)) => false | _ => true
theorem notOwn_of {i : Nat} (h : notOwn r i = true) : ¬ ∃ xs, r[i]? = some (some (Sl.own xs)) := by
  rintro ⟨xs, e⟩
  unfold notOwn at h
  rw [e] at h
  cases h
/-- a slot is given data -/
theorem Sim.setD (S : Sim K P sg H r) {i : Nat} {v : V} {x : D} (hi : i < r.length) (q : Rep K (Lv P sg r) H v x) :
    Sim K P (sg.set i (some v)) H (r.set i (some (.d x))) ∧ (∀ a, OwnA (sg.set i (some v)) (r.set i (some (.d x))) a → OwnA sg r a) := by
  have hi' : i < sg.length := by rw [S.len]; exact hi
  have ow : ∀ a, OwnA (sg.set i (some v)) (r.set i (some (.d x))) a → OwnA sg r a := by
    rintro a ⟨j, xs, h1, h2⟩
    by_cases hj : i = j
    · subst hj
      rw [List.getElem?_set_self hi] at h1; cases h1
    · rw [List.getElem?_set_ne hj] at h1 h2
      exact ⟨j, xs, h1, h2⟩
  have la : Later (Lv P sg r) H (Lv P (sg.set i (some v)) (r.set i (some (.d x)))) H := fun a o h n => ⟨h, fun z => n (z.elim .inl fun z => .inr (ow a z))⟩
  refine ⟨⟨by rw [List.length_set, List.length_set]; exact S.len, fun j y e => ?_, fun j y e => ?_, fun j y e => ?_, S.prot, fun j k xs ys a e1 e2 e3 e4 => ?_, fun a z => S.nP a (ow a z)⟩, ow⟩
  · by_cases hj : i = j
    · subst hj
      rw [List.getElem?_set_self hi] at e; cases e
      exact ⟨v, List.getElem?_set_self hi', q.mono la⟩
    · rw [List.getElem?_set_ne hj] at e
      obtain ⟨u, h1, h2⟩ := S.dat j y e
      exact ⟨u, by rw [List.getElem?_set_ne hj]; exact h1, h2.mono la⟩
  · by_cases hj : i = j
    · subst hj
      rw [List.getElem?_set_self hi] at e; cases e
    · rw [List.getElem?_set_ne hj] at e
      obtain ⟨a, vs, h1, h2, h3⟩ := S.own j y e
      exact ⟨a, vs, by rw [List.getElem?_set_ne hj]; exact h1, h2, h3.mono la⟩
  · by_cases hj : i = j
    · subst hj
      rw [List.getElem?_set_self hi] at e; cases e
    · rw [List.getElem?_set_ne hj] at e
      obtain ⟨a, h1, h2⟩ := S.scr j y e
      exact ⟨a, by rw [List.getElem?_set_ne hj]; exact h1, h2⟩
  · by_cases hj : i = j
    · subst hj
      rw [List.getElem?_set_self hi] at e1; cases e1
    · by_cases hk : i = k
      · subst hk
        rw [List.getElem?_set_self hi] at e2; cases e2
      · rw [List.getElem?_set_ne hj] at e1 e3
        rw [List.getElem?_set_ne hk] at e2 e4
        exact S.sep j k xs ys a e1 e2 e3 e4
/-- behind a target: the slots ix are set -/
structure Bnd (K : PySem.W.Frag) (P : Addr → Prop) (ix : List Nat) (sg : St) (r : Env) (H : Hp) (sg' : St) (r' : Env) : Prop where
  sim : Sim K P sg' H r'
  shape : ∀ i : Nat, (∃ xs, r'[i]? = some (some (Sl.own xs))) ↔ ∃ xs, r[i]? = some (some (Sl.own xs))
  sl : ∀ i, i ∉ ix → sg'[i]? = sg[i]?
  re : ∀ i, i ∉ ix → r'[i]? = r[i]?
  no : ∀ i ∈ ix, notOwn r i = true
  len : sg'.length = sg.length
theorem Bnd.own {ix : List Nat} (B : Bnd K P ix sg r H sg' r') (a : Addr) : OwnA sg' r' a ↔ OwnA sg r a := by
  constructor
  · rintro ⟨i, xs, h1, h2⟩
    obtain ⟨ys, h⟩ := (B.shape i).mp ⟨xs, h1⟩
    have hn : i ∉ ix := fun z => notOwn_of (B.no i z) ⟨ys, h⟩
    exact ⟨i, ys, h, by rw [← B.sl i hn]; exact h2⟩
  · rintro ⟨i, xs, h1, h2⟩
    obtain ⟨ys, h⟩ := (B.shape i).mpr ⟨xs, h1⟩
    have hn : i ∉ ix := fun z => notOwn_of (B.no i z) ⟨xs, h1⟩
    exact ⟨i, ys, h, by rw [B.sl i hn]; exact h2⟩
theorem Bnd.later {ix : List Nat} (B : Bnd K P ix sg r H sg' r') : Later (Lv P sg r) H (Lv P sg' r') H := fun a o h n =>
  ⟨h, fun z => n (z.elim .inl fun z => .inr ((B.own a).mp z))⟩
end
def OkG (X : Cx) (tg : Expr) (t : Tg) : Prop := ∀ (P : Addr → Prop) (sg : St) (H : Hp) (r : Env) (v : V) (x : D) (r' : Env) (Q : St → Hp → Prop), Sim X.K P sg H r → Rep X.K (Lv P sg r) H v x → t.bind x r = some r' →
  (∀ sg', Bnd X.K P t.ix sg r H sg' r' → Q sg' H) → UG X tg v sg H Q
def UGs (X : Cx) (ts : List Expr) : TGs := fun vs sg H Q => ∀ pins s us, Inv X pins sg H s → Vals vs us → wpAny (model X.prog X.w) X.A (assignInOrder ((assignEach ts X.env).map (·.2)) us) (fun _ s' => ∃ sg' H', Inv X pins sg' H' s' ∧ Q sg' H') X.xe s
theorem UGs.pgs {X : Cx} {ts : List Expr} : PGs X ts (UGs X ts) := ⟨fun pins s _ _ _ us _ I r h => h pins s us I r⟩
theorem UGs.of {X : Cx} {ts : List Expr} {t : TGs} {v sg H Q} (h : PGs X ts t) (q : t v sg H Q) : UGs X ts v sg H Q := fun pins s u I r => h.run pins s sg H v u Q I r q
def OkGs (X : Cx) (tg : List Expr) (t : Tgs) : Prop := ∀ (P : Addr → Prop) (sg : St) (H : Hp) (r : Env) (v : List V) (x : List D) (r' : Env) (Q : St → Hp → Prop), Sim X.K P sg H r → RepL X.K (Lv P sg r) H v x → t.bind x r = some r' →
  (∀ sg', Bnd X.K P t.ix sg r H sg' r' → Q sg' H) → UGs X tg v sg H Q
section
variable {X : Cx} {pos : Pos}
theorem okG_nm {i : Nat} {x : Str} (hN : X.N.Nodup) (hi : X.N[i]? = some x) (hx : Loc X.env.scope x) (hf : X.fn x = true ∨ X.env.scope.names.lookup x = some .local) : OkG X (.Name x pos) (.nm i) := by
  intro P sg H r v d r' Q S q hb hq
  unfold Tg.bind at hb
  split at hb
  · cases hb
  · rename_i y hne e
    cases hb
    have hi' : i < r.length := (List.getElem?_eq_some_iff.mp e).1
    obtain ⟨S', ow⟩ := S.setD hi' q
    have nI : ¬ ∃ xs, r[i]? = some (some (Sl.own xs)) := by
      rintro ⟨xs, z⟩
      rw [e] at z
      cases z
      exact hne _ rfl
    refine UG.of (pg_name hN hi hx hf) (hq _ ⟨S', fun j => ?_, fun j hj => ?_, fun j hj => ?_, fun j hj => ?_, List.length_set ..⟩)
    · by_cases hj : i = j
      · subst hj
        rw [List.getElem?_set_self hi']
        constructor
        · rintro ⟨xs, z⟩; cases z
        · exact fun z => absurd z nI
      · rw [List.getElem?_set_ne hj]
    · exact List.getElem?_set_ne fun z => hj (by unfold Tg.ix; rw [z]; exact List.mem_singleton.mpr rfl)
    · exact List.getElem?_set_ne fun z => hj (by unfold Tg.ix; rw [z]; exact List.mem_singleton.mpr rfl)
    · unfold Tg.ix at hj
      rw [List.mem_singleton.mp hj]
      unfold notOwn
      split
      · rename_i xs z
        exact absurd ⟨xs, z⟩ nI
      · rfl
  · cases hb
theorem okGs_nil : OkGs X [] .nil := by
  intro P sg H r v d r' Q S q hb hq
  cases q with
  | nil =>
    unfold Tgs.bind at hb
    cases hb
    exact UGs.of pgs_nil ⟨rfl, hq sg ⟨S, fun _ => Iff.rfl, fun _ _ => rfl, fun _ _ => rfl, (fun _ h => nomatch h), rfl⟩⟩
  | cons => cases hb
theorem okGs_cons {e : Expr} {es : List Expr} {t : Tg} {ts : Tgs} (h1 : OkG X e t) (h2 : OkGs X es ts) (hs : (assignEach (e :: es) X.env).map (·.2) = assign e X.env :: (assignEach es X.env).map (·.2)) : OkGs X (e :: es) (.cons t ts) := by
  intro P sg H r v d r' Q S q hb hq
  cases q with
  | nil => cases hb
  | cons q1 q2 =>
    unfold Tgs.bind at hb
    split at hb
    · rename_i r1 e1
      refine UGs.of (pgs_cons UG.pg UGs.pgs hs) ⟨_, _, rfl, ?_⟩
      refine h1 P sg H r _ _ r1 _ S q1 e1 fun sg1 B1 => ?_
      refine h2 P sg1 H r1 _ _ r' _ B1.sim (q2.mono B1.later) hb fun sg2 B2 => hq sg2 ?_
      refine ⟨B2.sim, fun i => (B2.shape i).trans (B1.shape i), fun i hi => ?_, fun i hi => ?_, fun i hi => ?_, B2.len.trans B1.len⟩
      · unfold Tgs.ix at hi
        rw [List.mem_append, not_or] at hi
        rw [B2.sl i hi.2, B1.sl i hi.1]
      · unfold Tgs.ix at hi
        rw [List.mem_append, not_or] at hi
        rw [B2.re i hi.2, B1.re i hi.1]
      · unfold Tgs.ix at hi
        rcases List.mem_append.mp hi with z | z
        · exact B1.no i z
        · have n2 := notOwn_of (B2.no i z)
          unfold notOwn
          split
          · rename_i xs z'
            exact absurd ((B1.shape i).mpr ⟨xs, z'⟩) n2
          · rfl
    · cases hb
theorem okG_tup {es : List Expr} {k : Nat} {ts : Tgs} (hc : X.calm = true) (h : OkGs X es ts) (hn : (assignEach es X.env).length = ts.len) (hst : (assignEach es X.env).findIdx? (·.1) = none) : OkG X (.Tuple es k pos) (.tup ts) := by
  intro P sg H r v d r' Q S q hb hq
  unfold Tg.bind at hb
  split at hb
  · rename_i xs
    split at hb
    · rename_i hl
      obtain ⟨a, us, rfl, h1, r1⟩ := q.tuple
      exact UG.of (pg_tup hc UGs.pgs hn hst) ⟨a, us, rfl, h1, by rw [r1.length]; exact hl, h P sg H r us xs r' Q S r1 hb hq⟩
    · cases hb
  · cases hb
end

/-! ### list comprehensions -/
section
variable {K : PySem.W.Frag} {P : Addr → Prop} {sg sg' : St} {r r' : Env} {H H' : Hp}
theorem Sim.wipe (S : Sim K P sg H r) {vs : List Nat} (no : ∀ i ∈ vs, notOwn r i = true) : Sim K P (L2.wipe sg vs) H (wipeE r vs) ∧ ∀ a, OwnA (L2.wipe sg vs) (wipeE r vs) a ↔ OwnA sg r a := by
  have key : ∀ {i : Nat} {y : Sl}, (wipeE r vs)[i]? = some (some y) → i ∉ vs ∧ r[i]? = some (some y) ∧ (L2.wipe sg vs)[i]? = sg[i]? := fun {i y} e => by
    have hn : i ∉ vs := fun z => wipeE_in r z y e
    rw [wipeE_out r hn] at e
    exact ⟨hn, e, wipe_out sg hn⟩
  have ow : ∀ a, OwnA (L2.wipe sg vs) (wipeE r vs) a ↔ OwnA sg r a := fun a => by
    constructor
    · rintro ⟨i, xs, h1, h2⟩
      obtain ⟨_, e1, e2⟩ := key h1
      exact ⟨i, xs, e1, by rw [← e2]; exact h2⟩
    · rintro ⟨i, xs, h1, h2⟩
      have hn : i ∉ vs := fun z => notOwn_of (no i z) ⟨xs, h1⟩
      exact ⟨i, xs, by rw [wipeE_out r hn]; exact h1, by rw [wipe_out sg hn]; exact h2⟩
  have la : Later (Lv P sg r) H (Lv P (L2.wipe sg vs) (wipeE r vs)) H := fun a o h n => ⟨h, fun z => n (z.elim .inl fun z => .inr ((ow a).mp z))⟩
  refine ⟨⟨by rw [wipe_length, wipeE_length]; exact S.len, fun i x e => ?_, fun i x e => ?_, fun i x e => ?_, S.prot, fun i j xs ys a e1 e2 e3 e4 => ?_, fun a z => S.nP a ((ow a).mp z)⟩, ow⟩
  · obtain ⟨_, e1, e2⟩ := key e
    obtain ⟨v, h1, h2⟩ := S.dat i x e1
    exact ⟨v, by rw [e2]; exact h1, h2.mono la⟩
  · obtain ⟨_, e1, e2⟩ := key e
    obtain ⟨a, vs, h1, h2, h3⟩ := S.own i x e1
    exact ⟨a, vs, by rw [e2]; exact h1, h2, h3.mono la⟩
  · obtain ⟨_, e1, e2⟩ := key e
    obtain ⟨a, h1, h2⟩ := S.scr i x e1
    exact ⟨a, by rw [e2]; exact h1, h2⟩
  · obtain ⟨_, f1, f2⟩ := key e1
    obtain ⟨_, g1, g2⟩ := key e2
    exact S.sep i j xs ys a f1 g1 (by rw [← f2]; exact e3) (by rw [← g2]; exact e4)
/-- what is protected may be changed by its owner -/
theorem Sim.updP (S : Sim K P sg H r) {p : Addr} (hp : P p) (o : HO) : Sim K P sg (upd H p o) r ∧ Later (Lv P sg r) H (Lv P sg r) (upd H p o) := by
  have la : Later (Lv P sg r) H (Lv P sg r) (upd H p o) := fun a u h n => ⟨by rw [upd_ne (fun z => n (.inl (by rw [z]; exact hp)))]; exact h, n⟩
  refine ⟨⟨S.len, fun i x e => ?_, fun i x e => ?_, fun i x e => ?_, fun a h => ?_, S.sep, S.nP⟩, la⟩
  · obtain ⟨v, h1, h2⟩ := S.dat i x e
    exact ⟨v, h1, h2.mono la⟩
  · obtain ⟨a, vs, h1, h2, h3⟩ := S.own i x e
    refine ⟨a, vs, h1, ?_, h3.mono la⟩
    rw [upd_ne fun z => S.nP a ⟨i, x, e, h1⟩ (by rw [z]; exact hp)]
    exact h2
  · obtain ⟨a, h1, h2⟩ := S.scr i x e
    exact ⟨a, h1, h2.map fun u h2 h3 => ⟨by rw [upd_ne fun z => h3 (by rw [z]; exact hp)]; exact h2, h3⟩⟩
  · by_cases z : a = p
    · rw [z, upd_same]; exact ⟨_, rfl⟩
    · rw [upd_ne z]; exact S.prot a h
end
def restore : List Nat → Env → Env → Env
  | [], _, rf => rf
  | v :: vs, r1, rf => (restore vs r1 rf).set v ((r1[v]?).getD none)
theorem restore_length (r1 rf : Env) : ∀ vs, (restore vs r1 rf).length = rf.length
  | [] => rfl
  | v :: vs => by unfold restore; rw [List.length_set, restore_length r1 rf vs]
theorem restore_out (r1 rf : Env) {i : Nat} : ∀ {vs : List Nat}, i ∉ vs → (restore vs r1 rf)[i]? = rf[i]?
  | [], _ => rfl
  | v :: vs, h => by
    unfold restore
    rw [List.getElem?_set_ne (fun e => h (by rw [e]; exact List.mem_cons_self)), restore_out r1 rf fun z => h (List.mem_cons_of_mem _ z)]
theorem restore_in (r1 rf : Env) (hl : rf.length = r1.length) {i : Nat} (hi : i < r1.length) : ∀ {vs : List Nat}, i ∈ vs → (restore vs r1 rf)[i]? = r1[i]?
  | v :: vs, h => by
    unfold restore
    by_cases hv : v = i
    · subst hv
      rw [List.getElem?_set_self (by rw [restore_length, hl]; exact hi), List.getElem?_eq_getElem hi]
      rfl
    · rw [List.getElem?_set_ne hv]
      rcases List.mem_cons.mp h with z | z
      · exact absurd z.symm hv
      · exact restore_in r1 rf hl hi z
def lcLoop (t : Tg) (c : ST) (m : SE) (vs : List Nat) : List D → Env → Option (List D × Env)
  | [], r => some ([], r)
  | d :: ds, r => match t.bind d r with
    | some r1 => match c r1 with
      | some (true, r2) => match m r2 with
        | some (y, r3) => match lcLoop t c m vs ds (wipeE r3 vs) with
          | some (ys, rf) => some (y :: ys, rf)
          | none => none
        | none => none
      | some (false, r2) => lcLoop t c m vs ds (wipeE r2 vs)
      | none => none
    | none => none
def nLc (src : SA) (t : Tg) (c : ST) (m : SE) : SA := fun r => match src r with
  | some (ds, r1) => if decide (ds.length ≤ sizeLine) && t.ix.all (notOwn r1) then match lcLoop t c m t.ix ds (wipeE r1 t.ix) with
    | some (ys, rf) => some (ys, restore t.ix r1 rf)
    | none => none else none
  | none => none
section
variable {X : Cx}
abbrev Cx.inBlk (X : Cx) (scope : Scope) (s : Shared) (H : Hp) (C : Addr) (cl : List (Str × Addr)) (fp : List Addr) : Cx := X.blk s H scope (compEnvC scope cl C X.env) fp
def UGb (X : Cx) (scope : Scope) (tg : Expr) : TG := fun v sg H Q => ∀ s0 H0 C cl fp, UG (Cx.inBlk X scope s0 H0 C cl fp) tg v sg H Q
def UEb (X : Cx) (scope : Scope) (e : Expr) : TE := fun sg H Q => ∀ s0 H0 C cl fp, UE (Cx.inBlk X scope s0 H0 C cl fp) e sg H Q
def UTs (X : Cx) (ifs : List Expr) : TT := fun sg H Q => ∀ pins s, Inv X pins sg H s →
  wpAny (model X.prog X.w) X.A (forIn ifs true fun c r => if r = true then do let ok ← isTrue c X.env (eval c X.env); pure (ForInStep.yield ok) else pure (ForInStep.yield r)) (TP X pins sg Q) X.xe s
theorem UTs.pts {X : Cx} {ifs : List Expr} : PTs X ifs (UTs X ifs) := ⟨fun pins s _ _ _ I h => h pins s I⟩
theorem UTs.of {X : Cx} {ifs : List Expr} {t : TT} {sg H Q} (h : PTs X ifs t) (q : t sg H Q) : UTs X ifs sg H Q := fun pins s I => h.run pins s sg H Q I q
def OkTs (X : Cx) (ifs : List Expr) (m : ST) : Prop := ∀ (P : Addr → Prop) (sg : St) (H : Hp) (r : Env) (Q : Bool → Hp → Prop) (b : Bool) (r' : Env), Sim X.K P sg H r → m r = some (b, r') →
  (∀ H', Ext X.K P sg r H r' H' → Q b H') → UTs X ifs sg H Q
def tTrue : ST := fun r => some (true, r)
theorem okTs_nil : OkTs X [] tTrue := by
  intro P sg H r Q b r' S hm hq
  cases hm
  exact UTs.of pts_nil (hq H (Ext.refl S))
theorem okTs_one {c : Expr} {m : ST} (h : OkT X c m) : OkTs X [c] m := fun P sg H r Q b r' S hm hq => UTs.of (pts_one UT.pt) (h P sg H r Q b r' S hm hq)
def UTb (X : Cx) (scope : Scope) (ifs : List Expr) : TT := fun sg H Q => ∀ s0 H0 C cl fp, UTs (Cx.inBlk X scope s0 H0 C cl fp) ifs sg H Q
end
end DL

namespace DL
open PySem PySem.Spec L2
/-- the state of a comprehension between two turns -/
structure LcI (K : PySem.W.Frag) (P : Addr → Prop) (vs : List Nat) (sg : St) (r1 : Env) (H1 : Hp) (D : Addr) (ri : Env) (H : Hp) (accV : List V) (acc : List DL.D) : Prop where
  sim : Sim K (With P D) (wipe sg vs) H ri
  shape : ∀ i : Nat, (∃ xs, ri[i]? = some (some (Sl.own xs))) ↔ ∃ xs, (wipeE r1 vs)[i]? = some (some (Sl.own xs))
  keep : ∀ a o, H1 a = some o → ¬ OwnA sg r1 a → H a = some o
  here : H D = some (.lst accV)
  rep : RepL K (Lv (With P D) (wipe sg vs) ri) H accV acc
section
variable {K : PySem.W.Frag} {P : Addr → Prop} {vs : List Nat} {sg : St} {r1 ri : Env} {H1 H : Hp} {D : Addr} {accV : List V} {acc : List DL.D}
theorem Sim.less {P' : Addr → Prop} {r : Env} (S : Sim K P sg H r) (h : ∀ a, P' a → P a) : Sim K P' sg H r := by
  have la : Later (Lv P sg r) H (Lv P' sg r) H := fun a o e n => ⟨e, fun z => n (z.elim (fun z => .inl (h a z)) .inr)⟩
  refine ⟨S.len, fun i x e => ?_, fun i x e => ?_, fun i x e => ?_, fun a z => S.prot a (h a z), S.sep, fun a z z' => S.nP a z (h a z')⟩
  · obtain ⟨v, h1, h2⟩ := S.dat i x e
    exact ⟨v, h1, h2.mono la⟩
  · obtain ⟨a, vs, h1, h2, h3⟩ := S.own i x e
    exact ⟨a, vs, h1, h2, h3.mono la⟩
  · obtain ⟨a, h1, h2⟩ := S.scr i x e
    exact ⟨a, h1, h2.map fun o h2 h3 => ⟨h2, fun z => h3 (h a z)⟩⟩
theorem notOwn_iff {r : Env} {i : Nat} (h : ¬ ∃ xs, r[i]? = some (some (Sl.own xs))) : notOwn r i = true := by
  unfold notOwn
  split
  · rename_i xs z; exact absurd ⟨xs, z⟩ h
  · rfl
theorem LcI.no (I : LcI K P vs sg r1 H1 D ri H accV acc) : ∀ i ∈ vs, notOwn ri i = true := fun i hi => notOwn_iff fun z => by
  obtain ⟨xs, e⟩ := (I.shape i).mp z
  exact wipeE_in r1 hi _ e
theorem LcI.own (S1 : Sim K P sg H1 r1) (no : ∀ i ∈ vs, notOwn r1 i = true) (I : LcI K P vs sg r1 H1 D ri H accV acc) (a : Addr) : OwnA (wipe sg vs) ri a ↔ OwnA sg r1 a := by
  refine Iff.trans ?_ ((S1.wipe no).2 a)
  constructor
  · rintro ⟨i, xs, h1, h2⟩
    obtain ⟨ys, e⟩ := (I.shape i).mp ⟨xs, h1⟩
    exact ⟨i, ys, e, h2⟩
  · rintro ⟨i, xs, h1, h2⟩
    obtain ⟨ys, e⟩ := (I.shape i).mpr ⟨xs, h1⟩
    exact ⟨i, ys, e, h2⟩
theorem LcI.later (S1 : Sim K P sg H1 r1) (no : ∀ i ∈ vs, notOwn r1 i = true) (hD : H1 D = none) (I : LcI K P vs sg r1 H1 D ri H accV acc) : Later (Lv P sg r1) H1 (Lv (With P D) (wipe sg vs) ri) H := fun a o h n =>
  ⟨I.keep a o h fun z => n (.inr z), fun z => z.elim (fun z => z.elim (fun z => n (.inl z)) fun z => ne_of_none h hD z) fun z => n (.inr ((I.own S1 no a).mp z))⟩
theorem LcI.start (S1 : Sim K P sg H1 r1) (no : ∀ i ∈ vs, notOwn r1 i = true) (hD : H1 D = none) : LcI K P vs sg r1 H1 D (wipeE r1 vs) (upd H1 D (.lst [])) [] [] :=
  ⟨((S1.wipe no).1.guard hD _).1, fun _ => Iff.rfl, fun a o h _ => by rw [upd_ne (ne_of_none h hD)]; exact h, upd_same, .nil⟩
/-- .. at the end -/
theorem LcI.fin (S1 : Sim K P sg H1 r1) (no : ∀ i ∈ vs, notOwn r1 i = true) (hD : H1 D = none) (I : LcI K P vs sg r1 H1 D ri H accV acc) :
    NewL K P sg r1 H1 (restore vs r1 ri) H D accV acc := by
  have hl : ri.length = r1.length := by
    have e1 := I.sim.len
    rw [wipe_length] at e1
    rw [← e1, S1.len]
  have sh : ∀ i : Nat, (∃ xs, (restore vs r1 ri)[i]? = some (some (Sl.own xs))) ↔ ∃ xs, r1[i]? = some (some (Sl.own xs)) := fun i => by
    by_cases hi : i ∈ vs
    · have n1 := notOwn_of (no i hi)
      refine ⟨fun ⟨xs, e⟩ => ?_, fun z => absurd z n1⟩
      by_cases hlt : i < r1.length
      · rw [restore_in r1 ri hl hlt hi] at e; exact ⟨xs, e⟩
      · rw [List.getElem?_eq_none (by rw [restore_length]; omega)] at e; cases e
    · rw [restore_out r1 ri hi, I.shape i, wipeE_out r1 hi]
  have ow : ∀ a, OwnA sg (restore vs r1 ri) a ↔ OwnA sg r1 a := fun a => by
    constructor
    · rintro ⟨i, xs, h1, h2⟩
      obtain ⟨ys, e⟩ := (sh i).mp ⟨xs, h1⟩
      exact ⟨i, ys, e, h2⟩
    · rintro ⟨i, xs, h1, h2⟩
      obtain ⟨ys, e⟩ := (sh i).mpr ⟨xs, h1⟩
      exact ⟨i, ys, e, h2⟩
  have la := I.later S1 no hD
  -- from the block's view back to the def's
  have lb : Later (Lv (With P D) (wipe sg vs) ri) H (Lv (With P D) sg (restore vs r1 ri)) H := fun a o h n =>
    ⟨h, fun z => n (z.elim .inl fun z => .inr ((I.own S1 no a).mpr ((ow a).mp z)))⟩
  have SD : Sim K (With P D) sg H (restore vs r1 ri) := by
    refine ⟨by rw [restore_length, hl]; exact S1.len, fun i x e => ?_, fun i x e => ?_, fun i x e => ?_, I.sim.prot, fun i j xs ys a e1 e2 e3 e4 => ?_, fun a z => I.sim.nP a ((I.own S1 no a).mpr ((ow a).mp z))⟩
    · by_cases hi : i ∈ vs
      · have hlt : i < r1.length := by
          have := (List.getElem?_eq_some_iff.mp e).1
          rw [restore_length, hl] at this; exact this
        rw [restore_in r1 ri hl hlt hi] at e
        obtain ⟨v, h1, h2⟩ := S1.dat i x e
        exact ⟨v, h1, (h2.mono la).mono lb⟩
      · rw [restore_out r1 ri hi] at e
        obtain ⟨v, h1, h2⟩ := I.sim.dat i x e
        exact ⟨v, by rw [← wipe_out sg hi]; exact h1, h2.mono lb⟩
    · by_cases hi : i ∈ vs
      · obtain ⟨ys, e'⟩ := (sh i).mp ⟨x, e⟩
        exact absurd ⟨ys, e'⟩ (notOwn_of (no i hi))
      · rw [restore_out r1 ri hi] at e
        obtain ⟨a, us, h1, h2, h3⟩ := I.sim.own i x e
        exact ⟨a, us, by rw [← wipe_out sg hi]; exact h1, h2, h3.mono lb⟩
    · by_cases hi : i ∈ vs
      · have hlt : i < r1.length := by
          have := (List.getElem?_eq_some_iff.mp e).1
          rw [restore_length, hl] at this; exact this
        rw [restore_in r1 ri hl hlt hi] at e
        obtain ⟨a, h1, h2⟩ := S1.scr i x e
        refine ⟨a, h1, h2.map fun o h2 h3 => ⟨I.keep a _ h2 fun z => ?_, fun z => z.elim h3 (ne_of_none h2 hD)⟩⟩
        obtain ⟨j, xs, j1, j2⟩ := z
        obtain ⟨b, us, k1, k2, _⟩ := S1.own j xs j1
        rw [j2] at k1; cases k1
        rw [h2] at k2; cases k2
      · rw [restore_out r1 ri hi] at e
        obtain ⟨a, h1, h2⟩ := I.sim.scr i x e
        exact ⟨a, by rw [← wipe_out sg hi]; exact h1, h2⟩
    · obtain ⟨xs', f1⟩ := (sh i).mp ⟨xs, e1⟩
      obtain ⟨ys', f2⟩ := (sh j).mp ⟨ys, e2⟩
      exact S1.sep i j xs' ys' a f1 f2 e3 e4
  exact ⟨⟨SD.less fun a h => .inl h, sh, I.keep⟩, SD, hD, I.here, I.rep.mono lb⟩
end
section
variable {X : Cx}
theorem okNT_lc {elt tg iter : Expr} {ifs : List Expr} {scope : Scope} {src : SA} {t : Tg} {c : ST} {m : SE} (hi : OkI X tg iter src)
    (hg : ∀ s0 H0 C cl fp, OkG (Cx.inBlk X scope s0 H0 C cl fp) tg t) (ht : ∀ s0 H0 C cl fp, OkTs (Cx.inBlk X scope s0 H0 C cl fp) ifs c) (he : ∀ s0 H0 C cl fp, OkE (Cx.inBlk X scope s0 H0 C cl fp) elt m)
    : OkNT X.K (tLc (UI X tg iter) (UGb X scope tg) (UTb X scope ifs) (UEb X scope elt) t.ix) (nLc src t c m) := by
  intro P sg H r Q ys r' S hm hq
  unfold nLc at hm
  split at hm
  · rename_i xs r1 e1
    split at hm
    · rename_i hcond
      split at hm
      · rename_i ys0 rf eL
        cases hm
        simp only [Bool.and_eq_true, decide_eq_true_eq, List.all_eq_true] at hcond
        obtain ⟨hz, no⟩ := hcond
        refine hi P sg H r _ xs r1 S e1 fun J H1 E1 fd => fun D hD => ?_
        have S1 := E1.sim
        refine ⟨fun i k H' => k = xs.length - i ∧ i ≤ xs.length ∧ ∃ ri accV acc ys', LcI X.K P t.ix sg r1 H1 D ri H' accV acc ∧ lcLoop t c m t.ix (xs.drop i) ri = some (ys', rf) ∧ acc ++ ys' = ys ∧ acc.length ≤ i,
          ⟨xs.length, by omega, Nat.zero_le _, wipeE r1 t.ix, [], [], ys, LcI.start S1 no hD, by rw [List.drop_zero]; exact eL, rfl, Nat.le_refl _⟩, ?_⟩
        rintro i k H' ⟨rfl, hik, ri, accV, acc, ys', I, eI, eacc, hacc⟩
        have la := I.later S1 no hD
        have fi := fd _ H' la I.sim.lv i
        by_cases hlt : i < xs.length
        · have hd : xs[i]? = some xs[i] := List.getElem?_eq_getElem hlt
          obtain ⟨hgo, hy⟩ := fi.1 _ hd
          rw [List.drop_eq_getElem_cons hlt] at eI
          unfold lcLoop at eI
          split at eI
          · rename_i rb eb
            refine .inr ⟨hgo, fun H'' => (∃ ri accV acc ys', LcI X.K P t.ix sg r1 H1 D ri H'' accV acc ∧ lcLoop t c m t.ix (xs.drop (i + 1)) ri = some (ys', rf) ∧ acc ++ ys' = ys ∧ acc.length ≤ i + 1),
              fun H'' h => ⟨xs.length - (i + 1), by omega, rfl, hlt, h⟩, fun x H2 y => ?_⟩
            obtain ⟨g2, rx⟩ := hy x H2 y
            have E2 := I.sim.grow g2
            intro s0 H0 C cl fp
            refine hg s0 H0 C cl fp _ _ H2 ri x _ rb _ E2.sim rx eb fun sg2 B => ⟨?_, ?_⟩
            · refine wipe_ext ?_ t.ix fun j hj => ?_
              · rw [B.len, wipe_length]
              · rw [B.sl j hj, wipe_out sg hj]
            have hw : wipe sg2 t.ix = wipe sg t.ix := by
              refine wipe_ext ?_ t.ix fun j hj => ?_
              · rw [B.len, wipe_length]
              · rw [B.sl j hj, wipe_out sg hj]
            have hD2 : H2 D = some (.lst accV) := g2 _ _ I.here
            have nD : ∀ rr, OwnA sg2 rr D → Sim X.K (With P D) sg2 H2 rr → False := fun rr z s => s.nP D z (.inr rfl)
            have nDb : ¬ OwnA sg2 rb D := fun z => nD rb z B.sim
            intro s0' H0' C' cl' fp'
            split at eI
            · rename_i rc ec
              split at eI
              · rename_i y0 rd ed
                split at eI
                · rename_i ys2 rf2 eR
                  cases eI
                  refine ht s0' H0' C' cl' fp' _ sg2 H2 rb _ _ rc B.sim ec fun H3 E3 => ?_
                  rw [if_pos rfl]
                  intro s1 H1' C1 cl1 fp1
                  refine he s1 H1' C1 cl1 fp1 _ sg2 H3 rc _ _ rd E3.sim ed fun v H4 E4 q4 => ?_
                  have E34 := E3.trans E4
                  have hD4 : H4 D = some (.lst accV) := E34.keep D _ hD2 nDb
                  refine ⟨accV, hD4, ?_, ?_⟩
                  · rw [I.rep.length]
                    exact Nat.lt_of_le_of_lt hacc (Nat.lt_of_lt_of_le hlt hz)
                  have shd : ∀ j : Nat, (∃ xs, rd[j]? = some (some (Sl.own xs))) ↔ ∃ xs, (wipeE r1 t.ix)[j]? = some (some (Sl.own xs)) := fun j => (E34.shape j).trans ((B.shape j).trans (I.shape j))
                  have nod : ∀ j ∈ t.ix, notOwn rd j = true := fun j hj => notOwn_iff fun z => by
                    obtain ⟨zs, e⟩ := (shd j).mp z
                    exact wipeE_in r1 hj _ e
                  obtain ⟨Sw, oww⟩ := E4.sim.wipe nod
                  rw [hw] at Sw oww
                  obtain ⟨Su, lu⟩ := Sw.updP (p := D) (.inr rfl) (.lst (accV ++ [v]))
                  have lw : Later (Lv (With P D) sg2 rd) H4 (Lv (With P D) (wipe sg t.ix) (wipeE rd t.ix)) H4 := fun a o h n => ⟨h, fun z => n (z.elim .inl fun z => .inr ((oww a).mp z))⟩
                  have ra : RepL X.K (Lv (With P D) sg2 rd) H4 accV acc := ((I.rep.mono E2.later).mono B.later).mono E34.later
                  refine ⟨wipeE rd t.ix, accV ++ [v], acc ++ [y0], ys2, ⟨Su, fun j => ?_, fun a o h n => ?_, upd_same, (((ra.append (.cons q4 .nil)).mono lw).mono lu)⟩, eR, ?_, ?_⟩
                  · by_cases hj : j ∈ t.ix
                    · constructor
                      · rintro ⟨zs, e⟩; exact absurd e (wipeE_in rd hj _)
                      · rintro ⟨zs, e⟩; exact absurd e (wipeE_in r1 hj _)
                    · rw [wipeE_out rd hj, shd j]
                  · have aD : a ≠ D := ne_of_none h hD
                    rw [upd_ne aD]
                    refine E34.keep a o (g2 a o (I.keep a o h n)) fun z => n ?_
                    exact (I.own S1 no a).mp ((B.own a).mp z)
                  · rw [List.append_assoc]; exact eacc
                  · rw [List.length_append, List.length_singleton]; omega
                · cases eI
              · cases eI
            · rename_i rc ec
              refine ht s0' H0' C' cl' fp' _ sg2 H2 rb _ _ rc B.sim ec fun H3 E3 => ?_
              rw [if_neg Bool.false_ne_true]
              have hD3 : H3 D = some (.lst accV) := E3.keep D _ hD2 nDb
              have shd : ∀ j : Nat, (∃ xs, rc[j]? = some (some (Sl.own xs))) ↔ ∃ xs, (wipeE r1 t.ix)[j]? = some (some (Sl.own xs)) := fun j => (E3.shape j).trans ((B.shape j).trans (I.shape j))
              have nod : ∀ j ∈ t.ix, notOwn rc j = true := fun j hj => notOwn_iff fun z => by
                obtain ⟨zs, e⟩ := (shd j).mp z
                exact wipeE_in r1 hj _ e
              obtain ⟨Sw, oww⟩ := E3.sim.wipe nod
              rw [hw] at Sw oww
              have lw : Later (Lv (With P D) sg2 rc) H3 (Lv (With P D) (wipe sg t.ix) (wipeE rc t.ix)) H3 := fun a o h n => ⟨h, fun z => n (z.elim .inl fun z => .inr ((oww a).mp z))⟩
              have ra : RepL X.K (Lv (With P D) sg2 rc) H3 accV acc := ((I.rep.mono E2.later).mono B.later).mono E3.later
              refine ⟨wipeE rc t.ix, accV, acc, ys', ⟨Sw, fun j => ?_, fun a o h n => ?_, hD3, ra.mono lw⟩, eI, eacc, by omega⟩
              · by_cases hj : j ∈ t.ix
                · constructor
                  · rintro ⟨zs, e⟩; exact absurd e (wipeE_in rc hj _)
                  · rintro ⟨zs, e⟩; exact absurd e (wipeE_in r1 hj _)
                · rw [wipeE_out rc hj, shd j]
              · refine E3.keep a o (g2 a o (I.keep a o h n)) fun z => n ?_
                exact (I.own S1 no a).mp ((B.own a).mp z)
            · cases eI
          · cases eI
        · have ei : i = xs.length := by omega
          subst ei
          rw [List.drop_length] at eI
          cases eI
          rw [List.append_nil] at eacc
          subst eacc
          have NF := I.fin S1 no hD
          exact .inl ⟨fi.2 rfl, hq D accV H' ⟨E1.trans NF.ext, NF.sim, E1.none hD, NF.here, NF.rep⟩⟩
      · cases hm
    · cases hm
  · cases hm
theorem pgB {scope : Scope} {tg : Expr} (s0 : Shared) (H0 : Hp) (C : Addr) (cl : List (Str × Addr)) (fp : List Addr) : PG (Cx.inBlk X scope s0 H0 C cl fp) tg (UGb X scope tg) := ⟨fun pins s _ _ _ u _ I r0 h => h s0 H0 C cl fp pins s u I r0⟩
theorem ptB {scope : Scope} {ifs : List Expr} (s0 : Shared) (H0 : Hp) (C : Addr) (cl : List (Str × Addr)) (fp : List Addr) : PTs (Cx.inBlk X scope s0 H0 C cl fp) ifs (UTb X scope ifs) := ⟨fun pins s _ _ _ I h => h s0 H0 C cl fp pins s I⟩
theorem peB {scope : Scope} {e : Expr} (s0 : Shared) (H0 : Hp) (C : Addr) (cl : List (Str × Addr)) (fp : List Addr) : PE (Cx.inBlk X scope s0 H0 C cl fp) e (UEb X scope e) := ⟨fun pins s _ _ _ I h => h s0 H0 C cl fp pins s I⟩
theorem okN_lc {elt tg iter : Expr} {ifs : List Expr} {scope : Scope} {own : List (Str × Nat)} {pos : Pos} {src : SA} {t : Tg} {c : ST} {m : SE} (hc : X.calm = true) (hN : X.N.Nodup) (hi : OkI X tg iter src) (ok : BlkOk X.N X.env.scope scope own) (hix : own.map (·.2) = t.ix)
    (hg : ∀ s0 H0 C cl fp, OkG (Cx.inBlk X scope s0 H0 C cl fp) tg t) (ht : ∀ s0 H0 C cl fp, OkTs (Cx.inBlk X scope s0 H0 C cl fp) ifs c) (he : ∀ s0 H0 C cl fp, OkE (Cx.inBlk X scope s0 H0 C cl fp) elt m)
    (hs : ∀ x, foldedSetIterable iter X.env x = pure x) : OkN X (.ListComp elt [⟨tg, iter, ifs, 0⟩] scope pos) (nLc src t c m) := by
  intro P sg H r Q ys r' S hm hq
  refine UE.of (pe_lc hc hN UI.pi ok pgB ptB peB hs) ?_
  rw [hix]
  exact okNT_lc hi hg ht he P sg H r Q ys r' S hm hq
end
end DL

namespace DL
open PySem PySem.Spec L2

/-! ### a slot becomes, or changes, one's own list -/
section
variable {K : PySem.W.Frag} {P : Addr → Prop} {sg sg' : St} {r r' : Env} {H H' : Hp}
theorem Sim.setOwn {p : Addr} {us : List V} {xs : List D} {i : Nat} (S : Sim K (With P p) sg H r) (hi : i < r.length) (np : ¬ P p) (h : H p = some (.lst us)) (q : RepL K (Lv (With P p) sg r) H us xs) :
    Sim K P (sg.set i (some (.ref p))) H (r.set i (some (.own xs))) ∧ ∀ a, OwnA (sg.set i (some (.ref p))) (r.set i (some (.own xs))) a → OwnA sg r a ∨ a = p := by
  have hi' : i < sg.length := by rw [S.len]; exact hi
  have ow : ∀ a, OwnA (sg.set i (some (.ref p))) (r.set i (some (.own xs))) a → OwnA sg r a ∨ a = p := by
    rintro a ⟨j, ys, h1, h2⟩
    by_cases hj : i = j
    · subst hj
      rw [List.getElem?_set_self hi'] at h2; cases h2
      exact .inr rfl
    · rw [List.getElem?_set_ne hj] at h1 h2
      exact .inl ⟨j, ys, h1, h2⟩
  have la : Later (Lv (With P p) sg r) H (Lv P (sg.set i (some (.ref p))) (r.set i (some (.own xs)))) H := fun a o e n =>
    ⟨e, fun z => n (z.elim (fun z => .inl (.inl z)) fun z => (ow a z).elim .inr fun z => .inl (.inr z))⟩
  refine ⟨⟨by rw [List.length_set, List.length_set]; exact S.len, fun j y e => ?_, fun j y e => ?_, fun j y e => ?_, fun a z => S.prot a (.inl z), fun j k ys zs a e1 e2 e3 e4 => ?_, fun a z z' => ?_⟩, ow⟩
  · by_cases hj : i = j
    · subst hj
      rw [List.getElem?_set_self hi] at e; cases e
    · rw [List.getElem?_set_ne hj] at e
      obtain ⟨u, h1, h2⟩ := S.dat j y e
      exact ⟨u, by rw [List.getElem?_set_ne hj]; exact h1, h2.mono la⟩
  · by_cases hj : i = j
    · subst hj
      rw [List.getElem?_set_self hi] at e; cases e
      exact ⟨p, us, List.getElem?_set_self hi', h, q.mono la⟩
    · rw [List.getElem?_set_ne hj] at e
      obtain ⟨a, vs, h1, h2, h3⟩ := S.own j y e
      exact ⟨a, vs, by rw [List.getElem?_set_ne hj]; exact h1, h2, h3.mono la⟩
  · by_cases hj : i = j
    · subst hj
      rw [List.getElem?_set_self hi] at e; cases e
    · rw [List.getElem?_set_ne hj] at e
      obtain ⟨a, h1, h2⟩ := S.scr j y e
      exact ⟨a, by rw [List.getElem?_set_ne hj]; exact h1, h2.map fun o h2 h3 => ⟨h2, fun z => h3 (.inl z)⟩⟩
  · have nown : ∀ {l : Nat} {ws : List D}, i ≠ l → r[l]? = some (some (.own ws)) → sg[l]? = some (some (.ref p)) → False := fun {l ws} hl f1 f2 => S.nP p ⟨l, ws, f1, f2⟩ (.inr rfl)
    by_cases hj : i = j
    · by_cases hk : i = k
      · rw [← hj, ← hk]
      · subst hj
        rw [List.getElem?_set_self hi'] at e3; cases e3
        rw [List.getElem?_set_ne hk] at e2 e4
        exact (nown hk e2 e4).elim
    · by_cases hk : i = k
      · subst hk
        rw [List.getElem?_set_self hi'] at e4; cases e4
        rw [List.getElem?_set_ne hj] at e1 e3
        exact (nown hj e1 e3).elim
      · rw [List.getElem?_set_ne hj] at e1 e3
        rw [List.getElem?_set_ne hk] at e2 e4
        exact S.sep j k ys zs a e1 e2 e3 e4
  · rcases ow a z with z | z
    · exact S.nP a z (.inl z')
    · exact np (by rw [← z]; exact z')
/-- one's own list changed -/
theorem Sim.updOwn {i : Nat} {xs ys : List D} {p : Addr} {us' : List V} (S : Sim K P sg H r) (e : r[i]? = some (some (.own xs))) (ep : sg[i]? = some (some (.ref p))) (q : RepL K (Lv P sg r) H us' ys) :
    Ext K P sg r H (r.set i (some (.own ys))) (upd H p (.lst us')) := by
  have hi : i < r.length := (List.getElem?_eq_some_iff.mp e).1
  have hown : OwnA sg r p := ⟨i, xs, e, ep⟩
  have sh : ∀ j : Nat, (∃ zs, (r.set i (some (Sl.own ys)))[j]? = some (some (Sl.own zs))) ↔ ∃ zs, r[j]? = some (some (Sl.own zs)) := fun j => by
    by_cases hj : i = j
    · subst hj
      rw [List.getElem?_set_self hi]
      exact ⟨fun _ => ⟨xs, e⟩, fun _ => ⟨ys, rfl⟩⟩
    · rw [List.getElem?_set_ne hj]
  have ow : ∀ a, OwnA sg (r.set i (some (.own ys))) a ↔ OwnA sg r a := fun a => by
    constructor
    · rintro ⟨j, zs, h1, h2⟩
      obtain ⟨ws, h⟩ := (sh j).mp ⟨zs, h1⟩
      exact ⟨j, ws, h, h2⟩
    · rintro ⟨j, zs, h1, h2⟩
      obtain ⟨ws, h⟩ := (sh j).mpr ⟨zs, h1⟩
      exact ⟨j, ws, h, h2⟩
  have la : Later (Lv P sg r) H (Lv P sg (r.set i (some (.own ys)))) (upd H p (.lst us')) := fun a o h n =>
    ⟨by rw [upd_ne fun z => n (.inr (by rw [z]; exact hown))]; exact h, fun z => n (z.elim .inl fun z => .inr ((ow a).mp z))⟩
  refine ⟨⟨by rw [List.length_set]; exact S.len, fun j y f => ?_, fun j y f => ?_, fun j y f => ?_, fun a h => ?_, fun j k zs ws a e1 e2 e3 e4 => ?_, fun a z => S.nP a ((ow a).mp z)⟩, sh, fun a o h n => by rw [upd_ne fun z => n (by rw [z]; exact hown)]; exact h⟩
  · by_cases hj : i = j
    · subst hj
      rw [List.getElem?_set_self hi] at f; cases f
    · rw [List.getElem?_set_ne hj] at f
      obtain ⟨u, h1, h2⟩ := S.dat j y f
      exact ⟨u, h1, h2.mono la⟩
  · by_cases hj : i = j
    · subst hj
      rw [List.getElem?_set_self hi] at f; cases f
      exact ⟨p, us', ep, upd_same, q.mono la⟩
    · rw [List.getElem?_set_ne hj] at f
      obtain ⟨a, vs, h1, h2, h3⟩ := S.own j y f
      refine ⟨a, vs, h1, ?_, h3.mono la⟩
      rw [upd_ne fun z => hj (S.sep i j xs y p e f ep (by rw [← z]; exact h1))]
      exact h2
  · by_cases hj : i = j
    · subst hj
      rw [List.getElem?_set_self hi] at f; cases f
    · rw [List.getElem?_set_ne hj] at f
      obtain ⟨a, h1, h2⟩ := S.scr j y f
      refine ⟨a, h1, h2.map fun o h2 h3 => ⟨?_, h3⟩⟩
      rw [upd_ne fun z => ?_]
      · exact h2
      · obtain ⟨b, vs, k1, k2, _⟩ := S.own i xs e
        rw [ep] at k1; cases k1
        rw [z, k2] at h2; cases h2
  · obtain ⟨o, h'⟩ := S.prot a h
    exact ⟨o, by rw [upd_ne fun z => S.nP p hown (by rw [← z]; exact h)]; exact h'⟩
  · obtain ⟨zs', f1⟩ := (sh j).mp ⟨zs, e1⟩
    obtain ⟨ws', f2⟩ := (sh k).mp ⟨ws, e2⟩
    exact S.sep j k zs' ws' a f1 f2 e3 e4
end

/-! ### statements -/
inductive Fl where
  | nx | ret (d : D) | retN (ds : List D) | bk | ct
abbrev SS := Env → Option (Fl × Env)
structure StE (K : PySem.W.Frag) (P : Addr → Prop) (io : List Nat) (sg : St) (r : Env) (H : Hp) (sg' : St) (r' : Env) (H' : Hp) : Prop where
  sim : Sim K P sg' H' r'
  keep : ∀ a o, H a = some o → ¬ OwnA sg r a → H' a = some o ∧ ¬ OwnA sg' r' a
  pin : ∀ i ∈ io, sg'[i]? = sg[i]?
  tr : ∀ a, H' a = none → H a = none
section
variable {K : PySem.W.Frag} {P : Addr → Prop} {io : List Nat} {sg sg1 sg2 : St} {r r1 r2 : Env} {H H1 H2 : Hp}
theorem StE.refl (S : Sim K P sg H r) : StE K P io sg r H sg r H := ⟨S, fun _ _ h n => ⟨h, n⟩, fun _ _ => rfl, fun _ h => h⟩
theorem StE.trans (a : StE K P io sg r H sg1 r1 H1) (b : StE K P io sg1 r1 H1 sg2 r2 H2) : StE K P io sg r H sg2 r2 H2 :=
  ⟨b.sim, fun c o h n => b.keep c o (a.keep c o h n).1 (a.keep c o h n).2, fun i hi => (b.pin i hi).trans (a.pin i hi), fun c h => a.tr c (b.tr c h)⟩
theorem Ext.st (E : Ext K P sg r H r1 H1) : StE K P io sg r H sg r1 H1 := ⟨E.sim, fun a o h n => ⟨E.keep a o h n, fun z => n ((E.own a).mp z)⟩, fun _ _ => rfl, fun _ h => E.none h⟩
theorem Bnd.st {ix : List Nat} (B : Bnd K P ix sg r H sg1 r1) (hd : ∀ i ∈ io, i ∉ ix) : StE K P io sg r H sg1 r1 H := ⟨B.sim, fun a o h n => ⟨h, fun z => n ((B.own a).mp z)⟩, fun i hi => B.sl i (hd i hi), fun _ h => h⟩
theorem StE.none (E : StE K P io sg r H sg1 r1 H1) {p : Addr} (h : H1 p = Option.none) : H p = Option.none := E.tr p h
theorem StE.later (E : StE K P io sg r H sg1 r1 H1) : Later (Lv P sg r) H (Lv P sg1 r1) H1 := fun a o h n =>
  ⟨(E.keep a o h fun z => n (.inr z)).1, fun z => z.elim (fun z => n (.inl z)) (E.keep a o h fun z => n (.inr z)).2⟩
end
/-- what a returned value must stand apart from -/
def LR (P : Addr → Prop) (io : List Nat) (sg : St) (r : Env) (a : Addr) : Prop := P a ∨ ∃ i ∈ io, ∃ xs, r[i]? = some (some (Sl.own xs)) ∧ sg[i]? = some (some (V.ref a))
def Post (K : PySem.W.Frag) (P : Addr → Prop) (io : List Nat) (sg : St) (r : Env) (H : Hp) (r' : Env) (E : Ends) : Fl → Prop
  | .nx => ∀ sg' H', StE K P io sg r H sg' r' H' → E.nx sg' H'
  | .bk => ∀ sg' H', StE K P io sg r H sg' r' H' → E.bk sg' H'
  | .ct => ∀ sg' H', StE K P io sg r H sg' r' H' → E.ct sg' H'
  | .ret d => ∀ v sg' H', StE K P io sg r H sg' r' H' → Rep K (LR P io sg' r') H' v d → E.rt v H'
  | .retN ds => ∀ p us sg' H', StE K P io sg r H sg' r' H' → Sim K (With P p) sg' H' r' → H p = none → H' p = some (.lst us) → RepL K (Lv (With P p) sg' r') H' us ds → E.rt (.ref p) H'
def OkS (X : Cx) (io : List Nat) (st : Stmt) (m : SS) : Prop := ∀ (P : Addr → Prop) (sg : St) (H : Hp) (r : Env) (E : Ends) (f : Fl) (r' : Env), Sim X.K P sg H r → m r = some (f, r') → Post X.K P io sg r H r' E f → US X st E sg H
def OkSs (X : Cx) (io : List Nat) (st : List Stmt) (m : SS) : Prop := ∀ (P : Addr → Prop) (sg : St) (H : Hp) (r : Env) (E : Ends) (f : Fl) (r' : Env), Sim X.K P sg H r → m r = some (f, r') → Post X.K P io sg r H r' E f → USs X st E sg H
theorem Post.after {K : PySem.W.Frag} {P : Addr → Prop} {io : List Nat} {sg sg1 : St} {r r1 r' : Env} {H H1 : Hp} {E : Ends} {f : Fl} (S : StE K P io sg r H sg1 r1 H1) (h : Post K P io sg r H r' E f) : Post K P io sg1 r1 H1 r' E f := by
  cases f with
  | nx => exact fun sg' H' q => h sg' H' (S.trans q)
  | bk => exact fun sg' H' q => h sg' H' (S.trans q)
  | ct => exact fun sg' H' q => h sg' H' (S.trans q)
  | ret d => exact fun v sg' H' q => h v sg' H' (S.trans q)
  | retN ds => exact fun p us sg' H' q s n => h p us sg' H' (S.trans q) s (S.none n)
section
variable {X : Cx} {io : List Nat} {st : Stmt} {rest a b : List Stmt} {e c : Expr} {pos : Pos}
def sNext : SS := fun r => some (.nx, r)
theorem okSs_nil : OkSs X io [] sNext := by
  intro P sg H r E f r' S hm hp
  cases hm
  exact USs.of pss_nil (hp sg H (StE.refl S))
def sSeq (m n : SS) : SS := fun r => match m r with | some (.nx, r1) => n r1 | x => x
theorem okSs_cons {m n : SS} (h : OkS X io st m) (hn : OkSs X io rest n) : OkSs X io (st :: rest) (sSeq m n) := by
  intro P sg H r E f r' S hm hp
  unfold sSeq at hm
  split at hm
  · rename_i r1 e1
    refine USs.of (pss_cons US.ps USs.pss) (h P sg H r _ .nx r1 S e1 fun sg1 H1 S1 => ?_)
    exact hn P sg1 H1 r1 E f r' S1.sim hm (hp.after S1)
  · rename_i hne
    refine USs.of (pss_cons US.ps USs.pss) (h P sg H r _ f r' S hm ?_)
    cases f with
    | nx => exact absurd hm (hne r')
    | bk => exact hp
    | ct => exact hp
    | ret d => exact hp
    | retN d => exact hp
theorem okS_pass : OkS X io (.Pass pos) sNext := by
  intro P sg H r E f r' S hm hp
  cases hm
  exact US.of ps_pass (hp sg H (StE.refl S))
theorem okS_break : OkS X io (.Break pos) (fun r => some (.bk, r)) := by
  intro P sg H r E f r' S hm hp
  cases hm
  exact US.of ps_break (hp sg H (StE.refl S))
theorem okS_continue : OkS X io (.Continue pos) (fun r => some (.ct, r)) := by
  intro P sg H r E f r' S hm hp
  cases hm
  exact US.of ps_continue (hp sg H (StE.refl S))
def sExpr (m : SE) : SS := fun r => match m r with | some (_, r') => some (.nx, r') | none => none
theorem okS_expr {m : SE} (h : OkE X e m) (hs : swapsWith e none pos.line X.env = pure false) : OkS X io (.Expr e pos) (sExpr m) := by
  intro P sg H r E f r' S hm hp
  unfold sExpr at hm
  split at hm
  · rename_i d r1 e1
    cases hm
    exact US.of (ps_expr UE.pe hs) (h P sg H r _ d r' S e1 fun v H1 E1 _ => hp sg H1 E1.st)
  · cases hm
theorem okS_doc {x : Str} {j : Nat} {p : Pos} : OkS X io (.Expr (.Constant (.str x) j p) pos) sNext := by
  intro P sg H r E f r' S hm hp
  cases hm
  exact US.of ps_doc (hp sg H (StE.refl S))
/-! return -/
def OkR (X : Cx) (io : List Nat) (e : Expr) (m : SE) : Prop := ∀ (P : Addr → Prop) (sg : St) (H : Hp) (r : Env) (Q : VK) (d : D) (r' : Env), Sim X.K P sg H r → m r = some (d, r') →
  (∀ v H', Ext X.K P sg r H r' H' → Rep X.K (LR P io sg r') H' v d → Q v H') → UE X e sg H Q
theorem lr_lv {P : Addr → Prop} {sg : St} {r : Env} {H : Hp} : Later (Lv P sg r) H (LR P io sg r) H := fun a o h n => ⟨h, fun z => n (z.elim .inl fun ⟨i, _, xs, h1, h2⟩ => .inr ⟨i, xs, h1, h2⟩)⟩
theorem okR_e {m : SE} (h : OkE X e m) : OkR X io e m := fun P sg H r Q d r' S hm hq => h P sg H r Q d r' S hm fun v H' E q => hq v H' E (q.mono lr_lv)
def rVar (io : List Nat) (i : Nat) : SE := fun r => match r[i]? with
  | some (some (.d x)) => some (x, r)
  | some (some (.own xs)) => if i ∈ io then none else some (.list xs, r)
  | _ => none
theorem okR_var {i : Nat} {x : Str} (hN : X.N[i]? = some x) (hv : Vis X.env.scope x) (hd : (x == ("__debug__" : Str)) = false) (hcd : (x == ("__classdict__" : Str)) = false) : OkR X io (.Name x pos) (rVar io i) := by
  intro P sg H r Q d r' S hm hq
  unfold rVar at hm
  split at hm
  · rename_i y e1
    cases hm
    obtain ⟨v, h1, h2⟩ := S.dat i _ e1
    exact UE.of (pe_var hN hv hd hcd) ⟨v, h1, hq v H (Ext.refl S) (h2.mono lr_lv)⟩
  · rename_i xs e1
    split at hm
    · cases hm
    · rename_i hi
      cases hm
      obtain ⟨p, us, h1, h2, h3⟩ := S.own i _ e1
      refine UE.of (pe_var hN hv hd hcd) ⟨_, h1, hq _ H (Ext.refl S) (.lst h2 (fun z => ?_) (h3.mono lr_lv))⟩
      rcases z with z | ⟨j, hj, ys, j1, j2⟩
      · exact S.nP p ⟨i, xs, e1, h1⟩ z
      · have := S.sep i j xs ys p e1 j1 h1 j2
        subst this
        exact hi hj
  · cases hm
theorem okR_if {b' a' : Expr} {mc : ST} {m n : SE} (hc : OkT X c mc) (h : OkR X io a' m) (hn : OkR X io b' n) : OkR X io (.IfExp c a' b' pos) (mIf mc m n) := by
  intro P sg H r Q d r' S hm hq
  unfold mIf at hm
  split at hm
  · rename_i r1 e1
    refine UE.of (pe_ifExp UT.pt UE.pe UE.pe) (hc P sg H r _ _ _ S e1 fun H1 E1 => ?_)
    rw [if_pos rfl]
    exact h P sg H1 r1 Q d r' E1.sim hm fun w H2 E2 q2 => hq w H2 (E1.trans E2) q2
  · rename_i r1 e1
    refine UE.of (pe_ifExp UT.pt UE.pe UE.pe) (hc P sg H r _ _ _ S e1 fun H1 E1 => ?_)
    rw [if_neg Bool.false_ne_true]
    exact hn P sg H1 r1 Q d r' E1.sim hm fun w H2 E2 q2 => hq w H2 (E1.trans E2) q2
  · cases hm
def sRet (m : SE) : SS := fun r => match m r with | some (d, r') => some (.ret d, r') | none => none
theorem okS_ret {m : SE} (h : OkR X io e m) : OkS X io (.Return (some e) pos) (sRet m) := by
  intro P sg H r E f r' S hm hp
  unfold sRet at hm
  split at hm
  · rename_i d r1 e1
    cases hm
    exact US.of (ps_ret UE.pe) (h P sg H r _ d r' S e1 fun v H1 E1 q => hp v sg H1 E1.st q)
  · cases hm
theorem okS_retN : OkS X io (.Return none pos) (fun r => some (.ret .none, r)) := by
  intro P sg H r E f r' S hm hp
  cases hm
  exact US.of ps_retN (hp .non sg H (StE.refl S) .non)
def sRetN (m : SA) : SS := fun r => match m r with | some (d, r') => some (.retN d, r') | none => none
theorem okS_retNew {m : SA} (h : OkN X e m) : OkS X io (.Return (some e) pos) (sRetN m) := by
  intro P sg H r E f r' S hm hp
  unfold sRetN at hm
  split at hm
  · rename_i d r1 e1
    cases hm
    exact US.of (ps_ret UE.pe) (h P sg H r _ d r' S e1 fun p us H1 n => hp p us sg H1 n.ext.st n.sim n.new n.here n.rep)
  · cases hm
/-! if -/
def sIf (c : ST) (m n : SS) : SS := fun r => match c r with | some (true, r') => m r' | some (false, r') => n r' | none => none
theorem okS_if {mc : ST} {m n : SS} (hc : OkT X c mc) (h : OkSs X io a m) (hn : OkSs X io b n) : OkS X io (.If c a b pos) (sIf mc m n) := by
  intro P sg H r E f r' S hm hp
  unfold sIf at hm
  split at hm
  · rename_i r1 e1
    refine US.of (ps_if UT.pt USs.pss USs.pss) (hc P sg H r _ _ _ S e1 fun H1 E1 => ?_)
    rw [if_pos rfl]
    exact h P sg H1 r1 E f r' E1.sim hm (hp.after E1.st)
  · rename_i r1 e1
    refine US.of (ps_if UT.pt USs.pss USs.pss) (hc P sg H r _ _ _ S e1 fun H1 E1 => ?_)
    rw [if_neg Bool.false_ne_true]
    exact hn P sg H1 r1 E f r' E1.sim hm (hp.after E1.st)
  · cases hm
/-! while, for -/
def whileL (c : ST) (m : SS) : Nat → Env → Option (Fl × Env)
  | 0, _ => none
  | n + 1, r => match c r with
    | some (true, r1) => match m r1 with
      | some (.nx, r2) => whileL c m n r2
      | some (.ct, r2) => whileL c m n r2
      | some (.bk, r2) => some (.nx, r2)
      | some (.ret d, r2) => some (.ret d, r2)
      | some (.retN d, r2) => some (.retN d, r2)
      | none => none
    | some (false, r1) => some (.nx, r1)
    | none => none
theorem okS_while {mc : ST} {m : SS} (fuel : Nat) (hx : PassesOwn (model X.prog X.w) X.A X.env X.xe) (hc : OkT X c mc) (h : OkSs X io a m) : OkS X io (.While c a [] pos) (whileL mc m fuel) := by
  intro P sg H r E f r' S hm hp
  refine US.of (ps_while hx UT.pt USs.pss) ?_
  refine ⟨fun k sg1 H1 => ∃ r1, StE X.K P io sg r H sg1 r1 H1 ∧ whileL mc m k r1 = some (f, r'), ⟨fuel, r, StE.refl S, hm⟩, ?_⟩
  rintro k sg1 H1 ⟨r1, S1, e1⟩
  cases k with
  | zero => cases e1
  | succ k =>
    unfold whileL at e1
    split at e1
    · rename_i r2 e2
      refine hc P sg1 H1 r1 _ _ _ S1.sim e2 fun H2 E2 => ?_
      rw [if_pos rfl]
      refine ⟨fun sg' H' => ∃ r', StE X.K P io sg r H sg' r' H' ∧ whileL mc m k r' = some (f, _), fun sg' H' ⟨q, q1, q2⟩ => ⟨k, Nat.lt_succ_self _, q, q1, q2⟩, ?_⟩
      have S2 := S1.trans E2.st
      split at e1
      · rename_i r3 e3
        exact h P sg1 H2 r2 _ .nx r3 E2.sim e3 fun sg' H' q => ⟨r3, S2.trans q, e1⟩
      · rename_i r3 e3
        exact h P sg1 H2 r2 _ .ct r3 E2.sim e3 fun sg' H' q => ⟨r3, S2.trans q, e1⟩
      · rename_i r3 e3
        cases e1
        exact h P sg1 H2 r2 _ .bk r' E2.sim e3 fun sg' H' q => hp sg' H' (S2.trans q)
      · rename_i d r3 e3
        cases e1
        exact h P sg1 H2 r2 _ (.ret d) r' E2.sim e3 fun v sg' H' q q' => hp v sg' H' (S2.trans q) q'
      · rename_i d r3 e3
        cases e1
        exact h P sg1 H2 r2 _ (.retN d) r' E2.sim e3 fun p us sg' H' q s n => hp p us sg' H' (S2.trans q) s (S2.none n)
      · cases e1
    · rename_i r2 e2
      cases e1
      refine hc P sg1 H1 r1 _ _ _ S1.sim e2 fun H2 E2 => ?_
      rw [if_neg Bool.false_ne_true]
      exact hp sg1 H2 (S1.trans E2.st)
    · cases e1
def forL (t : Tg) (m : SS) : List D → Env → Option (Fl × Env)
  | [], r => some (.nx, r)
  | d :: ds, r => match t.bind d r with
    | some r1 => match m r1 with
      | some (.nx, r2) => forL t m ds r2
      | some (.ct, r2) => forL t m ds r2
      | some (.bk, r2) => some (.nx, r2)
      | some (.ret d, r2) => some (.ret d, r2)
      | some (.retN d, r2) => some (.retN d, r2)
      | none => none
    | none => none
def sFor (src : SA) (t : Tg) (m : SS) : SS := fun r => match src r with | some (ds, r1) => forL t m ds r1 | none => none
theorem okS_for {tg it : Expr} {src : SA} {t : Tg} {m : SS} (hx : PassesOwn (model X.prog X.w) X.A X.env X.xe) (hc : X.calm = true) (hi : OkI X tg it src) (hg : OkG X tg t) (hd : ∀ i ∈ io, i ∉ t.ix) (h : OkSs X io a m) (hs : ∀ x, foldedSetIterable it X.env x = pure x) :
    OkS X io (.For tg it a [] pos) (sFor src t m) := by
  intro P sg H r E f r' S hm hp
  unfold sFor at hm
  split at hm
  · rename_i ds r1 e1
    refine US.of (ps_for hx hc UI.pi UG.pg USs.pss hs) (hi P sg H r _ ds r1 S e1 fun J H1 E1 fd => ?_)
    have S1 : StE X.K P io sg r1 H1 sg r1 H1 := StE.refl E1.sim
    have hp1 : Post X.K P io sg r1 H1 r' E f := hp.after E1.st
    refine ⟨fun i k sg' H' => k = ds.length - i ∧ i ≤ ds.length ∧ ∃ r2, StE X.K P io sg r1 H1 sg' r2 H' ∧ forL t m (ds.drop i) r2 = some (f, r'), ⟨ds.length, by omega, Nat.zero_le _, r1, S1, by rw [List.drop_zero]; exact hm⟩, ?_⟩
    rintro i k sg' H' ⟨rfl, hik, r2, S2, e2⟩
    have fi := fd _ H' S2.later S2.sim.lv i
    by_cases hlt : i < ds.length
    · obtain ⟨hgo, hy⟩ := fi.1 _ (List.getElem?_eq_getElem hlt)
      rw [List.drop_eq_getElem_cons hlt] at e2
      unfold forL at e2
      refine .inr ⟨hgo, fun sg3 H3 => ∃ r3, StE X.K P io sg r1 H1 sg3 r3 H3 ∧ forL t m (ds.drop (i + 1)) r3 = some (f, r'), fun sg3 H3 h3 => ⟨ds.length - (i + 1), by omega, rfl, hlt, h3⟩, fun x H2 y => ?_⟩
      obtain ⟨g2, rx⟩ := hy x H2 y
      have E2 := S2.sim.grow g2
      split at e2
      · rename_i rb eb
        refine hg P sg' H2 r2 x _ rb _ E2.sim rx eb fun sg3 B => ?_
        have S3 : StE X.K P io sg r1 H1 sg3 rb H2 := (S2.trans E2.st).trans (B.st hd)
        split at e2
        · rename_i r3 e3
          exact h P sg3 H2 rb _ .nx r3 B.sim e3 fun sg4 H4 q => ⟨r3, S3.trans q, e2⟩
        · rename_i r3 e3
          exact h P sg3 H2 rb _ .ct r3 B.sim e3 fun sg4 H4 q => ⟨r3, S3.trans q, e2⟩
        · rename_i r3 e3
          cases e2
          exact h P sg3 H2 rb _ .bk r' B.sim e3 fun sg4 H4 q => hp1 sg4 H4 (S3.trans q)
        · rename_i d r3 e3
          cases e2
          exact h P sg3 H2 rb _ (.ret d) r' B.sim e3 fun v sg4 H4 q q' => hp1 v sg4 H4 (S3.trans q) q'
        · rename_i d r3 e3
          cases e2
          exact h P sg3 H2 rb _ (.retN d) r' B.sim e3 fun p us sg4 H4 q s n => hp1 p us sg4 H4 (S3.trans q) s (S3.none n)
        · cases e2
      · cases e2
    · have ei : i = ds.length := by omega
      subst ei
      rw [List.drop_length] at e2
      cases e2
      exact .inl ⟨fi.2 rfl, hp1 sg' H' S2⟩
  · cases hm
/-! assignment -/
def sSet (i : Nat) (m : SE) : SS := fun r => match m r with | some (x, r1) => if i < r1.length then some (.nx, r1.set i (some (.d x))) else none | none => none
theorem okS_set {i : Nat} {m : SE} {T : TE} (hio : i ∉ io) (hT : ∀ (E : Ends) (sg : St) (H : Hp), T sg H (fun v H1 => E.nx (sg.set i (some v)) H1) → US X st E sg H) (h : OkET X.K T m) : OkS X io st (sSet i m) := by
  intro P sg H r E f r' S hm hp
  unfold sSet at hm
  split at hm
  · rename_i x r1 e1
    split at hm
    · rename_i hi
      cases hm
      refine hT E sg H (h P sg H r _ x r1 S e1 fun v H1 E1 q => ?_)
      obtain ⟨S2, ow⟩ := E1.sim.setD hi q
      refine hp _ H1 (E1.st.trans ⟨S2, fun a o h n => ⟨h, fun z => n (ow a z)⟩, fun j hj => List.getElem?_set_ne fun z => hio (by rw [z]; exact hj), fun _ h => h⟩)
    · cases hm
  · cases hm
def sOwn (i : Nat) (m : SA) : SS := fun r => match m r with | some (x, r1) => if i < r1.length then some (.nx, r1.set i (some (.own x))) else none | none => none
theorem okS_own {i : Nat} {m : SA} {T : TE} (hio : i ∉ io) (hT : ∀ (E : Ends) (sg : St) (H : Hp), T sg H (fun v H1 => E.nx (sg.set i (some v)) H1) → US X st E sg H) (h : OkNT X.K T m) : OkS X io st (sOwn i m) := by
  intro P sg H r E f r' S hm hp
  unfold sOwn at hm
  split at hm
  · rename_i x r1 e1
    split at hm
    · rename_i hi
      cases hm
      refine hT E sg H (h P sg H r _ x r1 S e1 fun p vs H1 n => ?_)
      have np : ¬ P p := fun z => by
        obtain ⟨o, e⟩ := S.prot p z
        rw [n.new] at e; cases e
      obtain ⟨S2, ow⟩ := n.sim.setOwn hi np n.here n.rep
      refine hp _ H1 ⟨S2, fun a o h k => ⟨n.ext.keep a o h k, fun z => ?_⟩, fun j hj => List.getElem?_set_ne fun z => hio (by rw [z]; exact hj), fun _ h => n.ext.none h⟩
      rcases ow a z with z | z
      · exact k ((n.ext.own a).mp z)
      · rw [z, n.new] at h; cases h
    · cases hm
  · cases hm
theorem set_plain {i : Nat} {x : Str} {p' : Pos} (hN : X.N.Nodup) (hi : X.N[i]? = some x) (hx : Loc X.env.scope x) (hf : X.fn x = true ∨ X.env.scope.names.lookup x = some .local) (hs : swapsWith e (some (.Name x p')) pos.line X.env = pure false) :
    ∀ (E : Ends) (sg : St) (H : Hp), UE X e sg H (fun v H1 => E.nx (sg.set i (some v)) H1) → US X (.Assign [.Name x p'] e pos) E sg H := fun E sg H h => US.of (ps_set hN hi hx UE.pe hs hf) h
theorem set_lc {i : Nat} {y : Str} {py spos : Pos} {elt tg iter : Expr} {ifs : List Expr} {scope : Scope} {own : List (Str × Nat)} {t : Tg} (hc : X.calm = true) (hN : X.N.Nodup) (hy : X.N[i]? = some y) (hyl : X.env.scope.names.lookup y = some .local)
    (hsw : swapsWith (.ListComp elt [⟨tg, iter, ifs, 0⟩] scope pos) (some (.Name y py)) spos.line X.env = pure true) (ok : BlkOk X.N X.env.scope scope own) (hix : own.map (·.2) = t.ix) (hs : ∀ x, foldedSetIterable iter X.env x = pure x) :
    ∀ (E : Ends) (sg : St) (H : Hp), tLc (UI X tg iter) (UGb X scope tg) (UTb X scope ifs) (UEb X scope elt) t.ix sg H (fun v H1 => E.nx (sg.set i (some v)) H1) → US X (.Assign [.Name y py] (.ListComp elt [⟨tg, iter, ifs, 0⟩] scope pos) spos) E sg H :=
  fun E sg H h => US.of (ps_setLc hc hN hy hyl hsw UI.pi ok pgB ptB peB hs) (by rw [hix]; exact h)
/-- several names from one value -/
def sUnp (t : Tg) (m : SE) : SS := fun r => match m r with
  | some (x, r1) => match t.bind x r1 with | some r2 => some (.nx, r2) | none => none
  | none => none
theorem okS_unp {tg : Expr} {t : Tg} {m : SE} (h : OkE X e m) (hg : OkG X tg t) (hd : ∀ i ∈ io, i ∉ t.ix) (hs : swapsWithSole [tg] e pos.line X.env = pure false) (hw : swappedStores [tg] e X.env = pure none) (h1 : (assignEach [tg] X.env).map (·.2) = [assign tg X.env]) :
    OkS X io (.Assign [tg] e pos) (sUnp t m) := by
  intro P sg H r E f r' S hm hp
  unfold sUnp at hm
  split at hm
  · rename_i x r1 e1
    split at hm
    · rename_i r2 e2
      cases hm
      refine US.of (ps_asg UE.pe UG.pg hs hw h1) (h P sg H r _ x r1 S e1 fun v H1 E1 q => ?_)
      exact hg P sg H1 r1 v x r' _ E1.sim q e2 fun sg2 B => hp sg2 H1 (E1.st.trans (B.st hd))
    · cases hm
  · cases hm
/-- x op= e over numbers, texts -/
def sAug (i : Nat) (m : SE) (g : D → D → Option D) : SS := fun r => match r[i]? with
  | some (some (.d _)) => match m r with
    | some (y, r1) => match r1[i]? with
      | some (some (.d x)) => match g x y with | some z => some (.nx, r1.set i (some (.d z))) | none => none
      | _ => none
    | none => none
  | _ => none
def InS (X : Cx) (op : Operator) (g : D → D → Option D) : Prop := ∀ (P : Addr → Prop) (sg : St) (H : Hp) (r : Env) (v u : V) (x y z : D) (Q : VK), Sim X.K P sg H r →
  Rep X.K (Lv P sg r) H v x → Rep X.K (Lv P sg r) H u y → g x y = some z → (∀ w H', Ext X.K P sg r H r H' → Rep X.K (Lv P sg r) H' w z → Q w H') → ∃ t, PIp X op t ∧ t v u H Q
def ipB (X : Cx) (op : Operator) : TIp := fun v u H Q => ∃ t, PIp X op t ∧ t v u H Q
theorem ipB_ok {op : Operator} : PIp X op (ipB X op) := by
  intro pins s sg H x y v u Q I rx ry h
  obtain ⟨t, ht, h⟩ := h
  exact ht pins s sg H x y v u Q I rx ry h
theorem okS_aug {i : Nat} {x : Str} {m : SE} {op : Operator} {g : D → D → Option D} {p' : Pos} (hio : i ∉ io) (hN : X.N.Nodup) (hi : X.N[i]? = some x) (hx : Loc X.env.scope x) (hf : X.fn x = true ∨ X.env.scope.names.lookup x = some .local) (hg : InS X op g) (h : OkE X e m) :
    OkS X io (.AugAssign (.Name x p') op e pos) (sAug i m g) := by
  intro P sg H r E f r' S hm hp
  unfold sAug at hm
  split at hm
  · rename_i x0 e0
    split at hm
    · rename_i y r1 e1
      split at hm
      · rename_i x1 e2
        split at hm
        · rename_i z e3
          cases hm
          obtain ⟨v, h1, _⟩ := S.dat i _ e0
          refine US.of (ps_aug hN hi hx UE.pe ipB_ok hf) ⟨v, h1, h P sg H r _ y r1 S e1 fun u H1 E1 q1 => ?_⟩
          obtain ⟨v', h1', h2'⟩ := E1.sim.dat i _ e2
          rw [h1] at h1'; cases h1'
          refine hg P sg H1 r1 v u x1 y z _ E1.sim h2' q1 e3 fun w H2 E2 q2 => ?_
          have hi' : i < r1.length := (List.getElem?_eq_some_iff.mp e2).1
          obtain ⟨S3, ow⟩ := E2.sim.setD hi' q2
          exact hp _ H2 ((E1.st.trans E2.st).trans ⟨S3, fun a o h n => ⟨h, fun z => n (ow a z)⟩, fun j hj => List.getElem?_set_ne fun z => hio (by rw [z]; exact hj), fun _ h => h⟩)
        · cases hm
      · cases hm
    · cases hm
  · cases hm
def gAdd : D → D → Option D
  | .int i, .int j => some (.int (i + j))
  | _, _ => none
def gSub : D → D → Option D
  | .int i, .int j => some (.int (i - j))
  | _, _ => none
theorem inS_add : InS X .Add gAdd := by
  intro P sg H r v u x y z Q S hx hy hz hq
  unfold gAdd at hz
  split at hz
  · cases hz
    cases hx
    cases hy
    exact ⟨_, ip_add, _, _, rfl, rfl, hq _ H (Ext.refl S) (.int _)⟩
  · cases hz
theorem inS_sub : InS X .Sub gSub := by
  intro P sg H r v u x y z Q S hx hy hz hq
  unfold gSub at hz
  split at hz
  · cases hz
    cases hx
    cases hy
    exact ⟨_, ip_sub, _, _, rfl, rfl, hq _ H (Ext.refl S) (.int _)⟩
  · cases hz
/-! one's own list: xs[k] = e -/
def sPut (i : Nat) (k m : SE) : SS := fun r => match m r with
  | some (y, r1) => if notOwn r1 i then none else match k r1 with
    | some (.int n, r2) => match r2[i]? with
      | some (some (.own xs)) => match ixN xs.length n with | some j => some (.nx, r2.set i (some (.own (xs.set j y)))) | none => none
      | _ => none
    | _ => none
  | none => none
theorem okS_put {i : Nat} {x : Str} {k m : SE} {ek : Expr} {px pt : Pos} (hN : X.N[i]? = some x) (hv : Vis X.env.scope x) (hd : (x == ("__debug__" : Str)) = false) (hcd : (x == ("__classdict__" : Str)) = false) (hk : OkE X ek k) (h : OkE X e m)
    (ha : ∀ v, assign (.Subscript (.Name x px) ek pt) X.env v = (do
      let ov ← holding [v] (eval (.Name x px) X.env)
      let iv ← holding [v, ov] (eval ek X.env)
      standAt pt
      holding [v, ov, iv] (setItem ov iv v)
      release [v, ov, iv] []))
    (hs : swapsWithSole [.Subscript (.Name x px) ek pt] e pos.line X.env = pure false) (hw : swappedStores [.Subscript (.Name x px) ek pt] e X.env = pure none) (h1 : (assignEach [.Subscript (.Name x px) ek pt] X.env).map (·.2) = [assign (.Subscript (.Name x px) ek pt) X.env]) :
    OkS X io (.Assign [.Subscript (.Name x px) ek pt] e pos) (sPut i k m) := by
  intro P sg H r E f r' S hm hp
  unfold sPut at hm
  split at hm
  · rename_i y r1 e1
    split at hm
    · cases hm
    rename_i h00
    split at hm
    · rename_i n r2 e2
      split at hm
      · rename_i xs e3
        split at hm
        · rename_i j e4
          cases hm
          refine US.of (ps_asg UE.pe (pg_sub (pe_var hN hv hd hcd) UE.pe set_list ha) hs hw h1) (h P sg H r _ y r1 S e1 fun v H1 E1 q1 => ?_)
          have e3' : ∃ zs, r1[i]? = some (some (Sl.own zs)) := Classical.byContradiction fun z => h00 (notOwn_iff z)
          obtain ⟨zs, e3'⟩ := e3'
          obtain ⟨p, us, p1, p2, p3⟩ := E1.sim.own i zs e3'
          refine ⟨_, p1, hk P sg H1 r1 _ _ r2 E1.sim e2 fun u H2 E2 q2 => ?_⟩
          cases q2
          obtain ⟨p', us', p1', p2', p3'⟩ := E2.sim.own i xs e3
          rw [p1] at p1'; cases p1'
          refine ⟨p, us', n, j, rfl, rfl, p2', by rw [p3'.length]; exact e4, ?_⟩
          have E3 := E2.sim.updOwn e3 p1 (p3'.set (E2.rep q1) j)
          exact hp sg _ ((E1.trans E2).trans E3).st
        · cases hm
      · cases hm
    · cases hm
  · cases hm
end
end DL

namespace DL
open PySem PySem.Spec L2

/-! ### a def's contract -/
structure RoomG (k : Nat) (A : Around) : Prop where
  rm : Room k A
  gd : A.guards = some []
theorem RoomG.deeper {k : Nat} {A : Around} (r : RoomG (k + 1) A) (env : PySem.Env) : RoomG k (A.deeper env) := ⟨r.rm.deeper env, r.gd⟩
abbrev FSem := List Sl → Option (D × List Sl)
abbrev FNew := List Sl → Option (List D × List Sl)
def envOf (as : List Sl) : DL.Env := as.map some
def stOf (vs : List V) : St := vs.map some
structure FnG (P : Program) (w : World) (K : PySem.W.Frag) (mg : Str → Option Value) (base : Heap) (k : Nat) (f : Addr) (fd : FuncData) (ps : List Str) (F : FSem) : Prop where
  run : ∀ (A : Around) (outer : List PySem.Env) (s : Shared) (H : Hp) (args : Args) (us : List Value) (vs : List V) (Pr : Addr → Prop) (as as' : List Sl) (d : D) (Q : VK), RoomG k A → Env0 P w K mg base A outer s H →
    BindsTo s fd args (ps.zip us) → Vals vs us → vs.length = ps.length → Sim K Pr (stOf vs) H (envOf as) → F as = some (d, as') →
    (∀ v H', Ext K Pr (stOf vs) (envOf as) H (envOf as') H' → Rep K (Lv Pr (stOf vs) (envOf as')) H' v d → Q v H') → codeAny (model P w) A (.call (.ref f) args) (CR CX0 outer P w H s Q E0) s
structure FnN (P : Program) (w : World) (K : PySem.W.Frag) (mg : Str → Option Value) (base : Heap) (k : Nat) (f : Addr) (fd : FuncData) (ps : List Str) (F : FNew) : Prop where
  run : ∀ (A : Around) (outer : List PySem.Env) (s : Shared) (H : Hp) (args : Args) (us : List Value) (vs : List V) (Pr : Addr → Prop) (as as' : List Sl) (ds : List D) (Q : VK), RoomG k A → Env0 P w K mg base A outer s H →
    BindsTo s fd args (ps.zip us) → Vals vs us → vs.length = ps.length → Sim K Pr (stOf vs) H (envOf as) → F as = some (ds, as') →
    (∀ p us' H', NewL K Pr (stOf vs) (envOf as) H (envOf as') H' p us' ds → Q (.ref p) H') → codeAny (model P w) A (.call (.ref f) args) (CR CX0 outer P w H s Q E0) s
/-- the parameters behind the call -/
def outs (r : DL.Env) : Nat → List Sl → Option (List Sl)
  | _, [] => some []
  | i, .own xs :: as => match r[i]? with
    | some (some (.own ys)) => match outs r (i + 1) as with | some bs => some (.own ys :: bs) | none => none
    | _ => none
  | i, .d x :: as => match outs r (i + 1) as with | some bs => some (.d x :: bs) | none => none
  | i, .scr x :: as => match outs r (i + 1) as with | some bs => some (.scr x :: bs) | none => none
def ioOk (io : List Nat) : Nat → List Sl → Bool
  | _, [] => true
  | i, .own _ :: as => decide (i ∈ io) && ioOk io (i + 1) as
  | i, .d _ :: as => ioOk io (i + 1) as
  | i, .scr _ :: as => ioOk io (i + 1) as
theorem outs_length {r : DL.Env} : ∀ {as bs : List Sl} {i : Nat}, outs r i as = some bs → bs.length = as.length
  | [], bs, i, e => by cases e; rfl
  | .own xs :: as, bs, i, e => by
    unfold outs at e
    split at e
    · split at e
      · rename_i cs e2; cases e; exact congrArg (· + 1) (outs_length e2)
      · cases e
    · cases e
  | .d x :: as, bs, i, e => by
    unfold outs at e
    split at e
    · rename_i cs e2; cases e; exact congrArg (· + 1) (outs_length e2)
    · cases e
  | .scr x :: as, bs, i, e => by
    unfold outs at e
    split at e
    · rename_i cs e2; cases e; exact congrArg (· + 1) (outs_length e2)
    · cases e
theorem outs_get {r : DL.Env} : ∀ {as bs : List Sl} {i j : Nat} {b : Sl}, outs r i as = some bs → bs[j]? = some b → (∃ xs ys, as[j]? = some (.own xs) ∧ b = .own ys ∧ r[i + j]? = some (some (.own ys))) ∨ (as[j]? = some b ∧ ∀ ys, b ≠ .own ys)
  | [], bs, i, j, b, e, h => by cases e; simp at h
  | .own xs :: as, bs, i, j, b, e, h => by
    unfold outs at e
    split at e
    · rename_i ys e1
      split at e
      · rename_i cs e2
        cases e
        cases j with
        | zero => simp at h; exact .inl ⟨xs, ys, rfl, h.symm, e1⟩
        | succ j =>
          have := outs_get e2 (show cs[j]? = some b by simpa using h)
          rw [show i + 1 + j = i + (j + 1) by omega] at this
          simpa using this
      · cases e
    · cases e
  | .d x :: as, bs, i, j, b, e, h => by
    unfold outs at e
    split at e
    · rename_i cs e2
      cases e
      cases j with
      | zero => simp at h; exact .inr ⟨by simp [h], fun ys z => by rw [← h] at z; cases z⟩
      | succ j =>
        have := outs_get e2 (show cs[j]? = some b by simpa using h)
        rw [show i + 1 + j = i + (j + 1) by omega] at this
        simpa using this
    · cases e
  | .scr x :: as, bs, i, j, b, e, h => by
    unfold outs at e
    split at e
    · rename_i cs e2
      cases e
      cases j with
      | zero => simp at h; exact .inr ⟨by simp [h], fun ys z => by rw [← h] at z; cases z⟩
      | succ j =>
        have := outs_get e2 (show cs[j]? = some b by simpa using h)
        rw [show i + 1 + j = i + (j + 1) by omega] at this
        simpa using this
    · cases e
theorem ioOk_get {io : List Nat} : ∀ {as : List Sl} {i j : Nat} {xs : List D}, ioOk io i as = true → as[j]? = some (.own xs) → i + j ∈ io
  | [], i, j, xs, _, e => by simp at e
  | .own ys :: as, i, j, xs, h, e => by
    unfold ioOk at h
    simp only [Bool.and_eq_true, decide_eq_true_eq] at h
    cases j with
    | zero => exact h.1
    | succ j => rw [show i + (j + 1) = i + 1 + j by omega]; exact ioOk_get h.2 (by simpa using e)
  | .d y :: as, i, j, xs, h, e => by
    unfold ioOk at h
    cases j with
    | zero => simp at e
    | succ j => rw [show i + (j + 1) = i + 1 + j by omega]; exact ioOk_get h (by simpa using e)
  | .scr y :: as, i, j, xs, h, e => by
    unfold ioOk at h
    cases j with
    | zero => simp at e
    | succ j => rw [show i + (j + 1) = i + 1 + j by omega]; exact ioOk_get h (by simpa using e)
def pad (n : Nat) (as : List Sl) : DL.Env := envOf as ++ List.replicate (n - as.length) none
def runF (n : Nat) (io : List Nat) (m : SS) : FSem := fun as => if ioOk io 0 as then match m (pad n as) with
  | some (.ret d, r) => match outs r 0 as with | some bs => some (d, bs) | none => none
  | some (.retN ds, r) => match outs r 0 as with | some bs => some (.list ds, bs) | none => none
  | some (.nx, r) => match outs r 0 as with | some bs => some (.none, bs) | none => none
  | _ => none else none
def runN (n : Nat) (io : List Nat) (m : SS) : FNew := fun as => if ioOk io 0 as then match m (pad n as) with
  | some (.retN ds, r) => match outs r 0 as with | some bs => some (ds, bs) | none => none
  | _ => none else none
theorem envOf_get {as : List Sl} {i : Nat} {y : Sl} : (envOf as)[i]? = some (some y) ↔ as[i]? = some y := by
  unfold envOf
  rw [List.getElem?_map]
  cases as[i]? <;> simp
theorem stOf_get {as : List V} {i : Nat} {y : V} : (stOf as)[i]? = some (some y) ↔ as[i]? = some y := by
  unfold stOf
  rw [List.getElem?_map]
  cases as[i]? <;> simp
theorem pad_get {n : Nat} {as : List Sl} {i : Nat} {y : Sl} : (pad n as)[i]? = some (some y) ↔ as[i]? = some y := by
  unfold pad
  by_cases hi : i < as.length
  · rw [List.getElem?_append_left (by unfold envOf; simpa using hi)]
    exact envOf_get
  · rw [List.getElem?_append_right (by unfold envOf; simpa using hi), List.getElem?_replicate, List.getElem?_eq_none (by omega : as.length ≤ i)]
    split <;> simp
theorem start_get {N : List Str} {vs : List V} {i : Nat} {y : V} : (start N vs)[i]? = some (some y) ↔ vs[i]? = some y := by
  unfold L2.start
  by_cases hi : i < vs.length
  · rw [List.getElem?_append_left (by simpa using hi), List.getElem?_map]
    cases vs[i]? <;> simp
  · rw [List.getElem?_append_right (by simpa using hi), List.getElem?_replicate, List.getElem?_eq_none (by omega : vs.length ≤ i)]
    split <;> simp
section
variable {K : PySem.W.Frag} {Pr : Addr → Prop} {H H' : Hp} {vs : List V} {as as' bs : List Sl}
theorem ownA_start {N : List Str} {n : Nat} (a : Addr) : OwnA (start N vs) (pad n as) a ↔ OwnA (stOf vs) (envOf as) a := by
  constructor
  · rintro ⟨i, xs, h1, h2⟩
    exact ⟨i, xs, envOf_get.mpr (pad_get.mp h1), stOf_get.mpr (start_get.mp h2)⟩
  · rintro ⟨i, xs, h1, h2⟩
    exact ⟨i, xs, pad_get.mpr (envOf_get.mp h1), start_get.mpr (stOf_get.mp h2)⟩
theorem sim_len (S : Sim K Pr (stOf vs) H (envOf as)) : vs.length = as.length := by
  have := S.len
  unfold stOf envOf at this
  simpa using this
theorem Sim.start {N : List Str} (S : Sim K Pr (stOf vs) H (envOf as)) (hl : vs.length ≤ N.length) : Sim K Pr (L2.start N vs) H (pad N.length as) := by
  have e := sim_len S
  have la : Later (Lv Pr (stOf vs) (envOf as)) H (Lv Pr (L2.start N vs) (pad N.length as)) H := fun a o h n => ⟨h, fun z => n (z.elim .inl fun z => .inr ((ownA_start a).mp z))⟩
  refine ⟨?_, fun i x h => ?_, fun i x h => ?_, fun i x h => ?_, S.prot, fun i j xs ys a h1 h2 h3 h4 => ?_, fun a z => S.nP a ((ownA_start a).mp z)⟩
  · unfold L2.start pad envOf
    simp only [List.length_append, List.length_map, List.length_replicate]
    omega
  · obtain ⟨v, h1, h2⟩ := S.dat i x (envOf_get.mpr (pad_get.mp h))
    exact ⟨v, start_get.mpr (stOf_get.mp h1), h2.mono la⟩
  · obtain ⟨a, us, h1, h2, h3⟩ := S.own i x (envOf_get.mpr (pad_get.mp h))
    exact ⟨a, us, start_get.mpr (stOf_get.mp h1), h2, h3.mono la⟩
  · obtain ⟨a, h1, h2⟩ := S.scr i x (envOf_get.mpr (pad_get.mp h))
    exact ⟨a, start_get.mpr (stOf_get.mp h1), h2⟩
  · exact S.sep i j xs ys a (envOf_get.mpr (pad_get.mp h1)) (envOf_get.mpr (pad_get.mp h2)) (stOf_get.mpr (start_get.mp h3)) (stOf_get.mpr (start_get.mp h4))
/-- from the end of the body to what the caller sees -/
theorem ends {P : Addr → Prop} {N : List Str} {io : List Nat} {sg' : St} {r' : DL.Env} (S : Sim K Pr (stOf vs) H (envOf as)) (hio : ioOk io 0 as = true) (E : StE K Pr io (start N vs) (pad N.length as) H sg' r' H') (ho : outs r' 0 as = some bs)
    (hP : ∀ a, Pr a → P a) (SP : Sim K P sg' H' r') (hPn : ∀ a, P a → ¬ Pr a → H a = none) :
    Ext K Pr (stOf vs) (envOf as) H (envOf bs) H' ∧ Sim K P (stOf vs) H' (envOf bs) ∧ ∀ a, Lv P (stOf vs) (envOf bs) a → LR P io sg' r' a := by
  have hl := outs_length ho
  have el := sim_len S
  have sh : ∀ i : Nat, (∃ xs, (envOf bs)[i]? = some (some (Sl.own xs))) ↔ ∃ xs, (envOf as)[i]? = some (some (Sl.own xs)) := fun i => by
    constructor
    · rintro ⟨xs, h⟩
      rcases outs_get ho (envOf_get.mp h) with ⟨ys, zs, h1, _, _⟩ | ⟨_, h2⟩
      · exact ⟨ys, envOf_get.mpr h1⟩
      · exact absurd rfl (h2 xs)
    · rintro ⟨xs, h⟩
      have h := envOf_get.mp h
      have hi : i < bs.length := by rw [hl]; exact (List.getElem?_eq_some_iff.mp h).1
      rcases outs_get ho (List.getElem?_eq_getElem hi) with ⟨ys, zs, _, h2, _⟩ | ⟨h1, h2⟩
      · exact ⟨zs, envOf_get.mpr (by rw [List.getElem?_eq_getElem hi, h2])⟩
      · rw [h] at h1
        exact absurd (Option.some.inj h1).symm (h2 xs)
  have ow : ∀ a, OwnA (stOf vs) (envOf bs) a ↔ OwnA (stOf vs) (envOf as) a := fun a => by
    constructor
    · rintro ⟨i, xs, h1, h2⟩
      obtain ⟨ys, h⟩ := (sh i).mp ⟨xs, h1⟩
      exact ⟨i, ys, h, h2⟩
    · rintro ⟨i, xs, h1, h2⟩
      obtain ⟨ys, h⟩ := (sh i).mpr ⟨xs, h1⟩
      exact ⟨i, ys, h, h2⟩
  -- an own parameter: its slot at the end
  have own_at : ∀ (i : Nat) (xs : List D), bs[i]? = some (.own xs) → r'[i]? = some (some (.own xs)) ∧ i ∈ io := fun i xs h => by
    rcases outs_get ho h with ⟨ys, zs, h1, h2, h3⟩ | ⟨_, h2⟩
    · cases h2
      rw [Nat.zero_add] at h3
      have := ioOk_get hio h1
      rw [Nat.zero_add] at this
      exact ⟨h3, this⟩
    · exact absurd rfl (h2 xs)
  have pin_at : ∀ (i : Nat) (a : Addr), i ∈ io → (stOf vs)[i]? = some (some (.ref a)) → sg'[i]? = some (some (.ref a)) := fun i a hi h => by
    rw [E.pin i hi]
    exact start_get.mpr (stOf_get.mp h)
  have own_in : ∀ a, OwnA (stOf vs) (envOf bs) a → ∃ i ∈ io, ∃ xs, r'[i]? = some (some (Sl.own xs)) ∧ sg'[i]? = some (some (V.ref a)) := by
    rintro a ⟨i, xs, h1, h2⟩
    obtain ⟨h3, h4⟩ := own_at i xs (envOf_get.mp h1)
    exact ⟨i, h4, xs, h3, pin_at i a h4 h2⟩
  have lb : Later (Lv P sg' r') H' (Lv P (stOf vs) (envOf bs)) H' := fun a o h n => ⟨h, fun z => n (z.elim .inl fun z => by
    obtain ⟨i, _, xs, h1, h2⟩ := own_in a z
    exact .inr ⟨i, xs, h1, h2⟩)⟩
  have la : Later (Lv Pr (stOf vs) (envOf as)) H (Lv P (stOf vs) (envOf bs)) H' := fun a o h n => by
    have k := E.keep a o h fun z => n (.inr ((ownA_start a).mp z))
    refine ⟨k.1, fun z => z.elim (fun z => ?_) fun z => n (.inr ((ow a).mp z))⟩
    by_cases hp : Pr a
    · exact n (.inl hp)
    · have := hPn a z hp
      rw [h] at this; cases this
  have SB : Sim K P (stOf vs) H' (envOf bs) := by
    refine ⟨?_, fun i x h => ?_, fun i x h => ?_, fun i x h => ?_, SP.prot, fun i j xs ys a h1 h2 h3 h4 => ?_, fun a z z' => ?_⟩
    · unfold stOf envOf
      simp only [List.length_map]
      omega
    · rcases outs_get ho (envOf_get.mp h) with ⟨ys, zs, _, h2, _⟩ | ⟨h1, _⟩
      · cases h2
      · obtain ⟨v, k1, k2⟩ := S.dat i x (envOf_get.mpr h1)
        exact ⟨v, k1, k2.mono la⟩
    · obtain ⟨h3, h4⟩ := own_at i x (envOf_get.mp h)
      obtain ⟨ys, h5⟩ := (sh i).mp ⟨x, h⟩
      obtain ⟨a, us, k1, _, _⟩ := S.own i ys h5
      obtain ⟨a', us', k1', k2', k3'⟩ := SP.own i x h3
      rw [pin_at i a h4 k1] at k1'; cases k1'
      exact ⟨a, us', k1, k2', k3'.mono lb⟩
    · rcases outs_get ho (envOf_get.mp h) with ⟨ys, zs, _, h2, _⟩ | ⟨h1, _⟩
      · cases h2
      · obtain ⟨a, k1, k2⟩ := S.scr i x (envOf_get.mpr h1)
        refine ⟨a, k1, k2.map fun o k2 k3 => ?_⟩
        have no : ¬ OwnA (stOf vs) (envOf as) a := fun ⟨j, xs, j1, j2⟩ => by
          obtain ⟨b, us, l1, l2, _⟩ := S.own j xs j1
          rw [j2] at l1; cases l1
          rw [k2] at l2; cases l2
        refine ⟨(E.keep a _ k2 fun z => no ((ownA_start a).mp z)).1, fun z => ?_⟩
        by_cases hp : Pr a
        · exact k3 hp
        · have := hPn a z hp
          rw [k2] at this; cases this
    · obtain ⟨xs', f1⟩ := (sh i).mp ⟨xs, h1⟩
      obtain ⟨ys', f2⟩ := (sh j).mp ⟨ys, h2⟩
      exact S.sep i j xs' ys' a f1 f2 h3 h4
    · obtain ⟨i, _, xs, h1, h2⟩ := own_in a z
      exact SP.nP a ⟨i, xs, h1, h2⟩ z'
  exact ⟨⟨SB.less hP, sh, fun a o h n => (E.keep a o h fun z => n ((ownA_start a).mp z)).1⟩, SB, fun a z => z.elim .inl fun z => .inr (own_in a z)⟩
end
/-- the context of a body keeps what a def asks -/
abbrev bodyCx (P : Program) (w : World) (K : PySem.W.Frag) (mg : Str → Option Value) (base : Heap) (N : List Str) (qual : Str) (st : Stmt) (f : Addr) (cdv : Value) (A : Around) (outer : List PySem.Env) (s : Shared) (H : Hp) : Cx :=
  (cxOf CX0 P w K mg base N qual (defScope st) f cdv A outer s H E0).nox
section
variable {P : Program} {w : World} {K : PySem.W.Frag} {mg : Str → Option Value} {base : Heap} {x qual : Str} {st : Stmt} {f : Addr} {fd : FuncData} {N ps : List Str} {k : Nat}
theorem enter {io : List Nat} {m : SS} (F : Fun K x qual st f fd) (S : FnScope N ps (defScope st)) (hb : ∀ cdv A outer s H, RoomG k (A.deeper (PyProof.Rows.envOfC qual (defScope st) s.heap.objs.size f cdv)) → OkSs (bodyCx P w K mg base N qual st f cdv A outer s H) io (defBody st) m)
    {A : Around} {outer : List PySem.Env} {s : Shared} {H : Hp} {args : Args} {us : List Value} {vs : List V} {Pr : Addr → Prop} {as : List Sl} {Q : VK} {fl : Fl} {r' : DL.Env} (hr : RoomG (k + 1) A) (e0 : Env0 P w K mg base A outer s H)
    (hbd : BindsTo s fd args (ps.zip us)) (rv : Vals vs us) (hl : vs.length = ps.length) (SM : Sim K Pr (stOf vs) H (envOf as)) (hm : m (pad N.length as) = some (fl, r'))
    (post : Post K Pr io (start N vs) (pad N.length as) H r' { nx := fun _ H' => Q .non H', rt := Q } fl) : codeAny (model P w) A (.call (.ref f) args) (CR CX0 outer P w H s Q E0) s := by
  obtain ⟨oc, od, kV, doc, pm, an, cdv, ct, osl, rfl, lk, hcd⟩ := F.ex
  have inK : K.In s.heap := e0.mod.kin.keeps fun b o e => (e0.bs b o e).1
  have noL : s.heap.NoLimit := e0.mod.nolimit.keeps fun b o e => (e0.bs b o e).1
  have kinds : ∀ y ∈ ps.zip us, (defScope st).names.lookup y.1 = some .local ∨ ((defScope st).names.lookup y.1 = some .cell ∧ ((cellsFrom (s.heap.objs.size + 1) (defScope st).names []).lookup y.1).isSome = true) := by
    rintro ⟨n, v⟩ hy
    rcases S.par n (List.of_mem_zip hy).1 with q | q
    · exact Or.inl q
    · exact Or.inr ⟨q, PySem.W.cellsFrom_some _ _ _ (Or.inl q)⟩
  refine codeAny_call_function hr.rm.depth (inK _ _ lk) rfl S.co S.gen rfl (PySem.W.codeRec_of inK hcd) (hbd _ _ _ _ ?_)
  refine wpAny_newFunctionEnv_cells S.kind kinds (fun env he s1 y => ?_)
  cases he
  refine ⟨noL.keeps y.toInCall.keep, codeAny_func ?_⟩
  have hN : vs.length ≤ N.length := by
    have := congrArg List.length S.pre
    rw [List.length_take] at this
    omega
  have I1 : Inv (bodyCx P w K mg base N qual st f cdv A outer s H) [] (start N vs) H s1 := (inv_start S hr.rm.hd e0 hl rv y).wish _
  have run := hb cdv A outer s H (hr.deeper _) Pr (start N vs) H (pad N.length as) { nx := fun _ H' => Q .non H', rt := Q } fl r' (SM.start hN) hm post [] s1 I1
  refine wpAny_mono run (fun g s' hs => ?_) (fun _ _ z => z.elim)
  have back : ∀ {sg' : St} {H' : Hp} {v : V} {u : Value}, Inv (bodyCx P w K mg base N qual st f cdv A outer s H) [] sg' H' s' → RelV v u → Q v H' → CE outer P w H s Q u s' := fun {sg' H' v u} J r q => ⟨v, H', J.os, J.bare, J.base, J.hok, r, q⟩
  cases g with
  | ret u => obtain ⟨v, sg', H', J, r, q⟩ := hs; exact back J r q
  | next => obtain ⟨sg', H', J, q⟩ := hs; exact back (v := V.non) (u := Value.none) J rfl q
  | brk => obtain ⟨_, _, _, q⟩ := hs; exact q.elim
  | cont => obtain ⟨_, _, _, q⟩ := hs; exact q.elim
theorem fnG_of {io : List Nat} {m : SS} (F : Fun K x qual st f fd) (S : FnScope N ps (defScope st)) (hb : ∀ cdv A outer s H, RoomG k (A.deeper (PyProof.Rows.envOfC qual (defScope st) s.heap.objs.size f cdv)) → OkSs (bodyCx P w K mg base N qual st f cdv A outer s H) io (defBody st) m) :
    FnG P w K mg base (k + 1) f fd ps (runF N.length io m) := by
  refine ⟨fun A outer s H args us vs Pr as as' d Q hr e0 hbd rv hl SM hF hq => ?_⟩
  unfold runF at hF
  split at hF
  · rename_i hio
    split at hF
    · rename_i d0 r e1
      split at hF
      · rename_i bs e2
        cases hF
        refine enter F S hb hr e0 hbd rv hl SM e1 fun v sg' H' E q => ?_
        obtain ⟨EX, _, hL⟩ := ends SM hio E e2 (fun _ h => h) E.sim (fun a h n => absurd h n)
        exact hq v H' EX (q.mono fun a o h n => ⟨h, fun z => n (hL a z)⟩)
      · cases hF
    · rename_i d0 r e1
      split at hF
      · rename_i bs e2
        cases hF
        refine enter F S hb hr e0 hbd rv hl SM e1 fun p us' sg' H' E SP np hp q => ?_
        have nP : ¬ Pr p := fun z => by obtain ⟨o, e⟩ := SM.prot p z; rw [np] at e; cases e
        obtain ⟨EX, SB, hL⟩ := ends SM hio E e2 (P := With Pr p) (fun _ h => .inl h) SP (fun a h n => h.elim (fun z => absurd z n) fun z => by rw [z]; exact np)
        refine hq _ H' EX (.lst hp (fun z => z.elim nP fun z => SB.nP p z (.inr rfl)) (q.mono fun a o h n => ⟨h, fun z => n (z.elim (fun z => .inl (.inl z)) fun z => ?_)⟩))
        rcases hL a (.inr z) with z | ⟨i, _, xs, h1, h2⟩
        · exact .inl z
        · exact .inr ⟨i, xs, h1, h2⟩
      · cases hF
    · rename_i r e1
      split at hF
      · rename_i bs e2
        cases hF
        refine enter F S hb hr e0 hbd rv hl SM e1 fun sg' H' E => ?_
        obtain ⟨EX, _, hL⟩ := ends SM hio E e2 (fun _ h => h) E.sim (fun a h n => absurd h n)
        exact hq .non H' EX .non
      · cases hF
    · cases hF
  · cases hF
theorem fnN_of {io : List Nat} {m : SS} (F : Fun K x qual st f fd) (S : FnScope N ps (defScope st)) (hb : ∀ cdv A outer s H, RoomG k (A.deeper (PyProof.Rows.envOfC qual (defScope st) s.heap.objs.size f cdv)) → OkSs (bodyCx P w K mg base N qual st f cdv A outer s H) io (defBody st) m) :
    FnN P w K mg base (k + 1) f fd ps (runN N.length io m) := by
  refine ⟨fun A outer s H args us vs Pr as as' d Q hr e0 hbd rv hl SM hF hq => ?_⟩
  unfold runN at hF
  split at hF
  · rename_i hio
    split at hF
    · rename_i d0 r e1
      split at hF
      · rename_i bs e2
        cases hF
        refine enter F S hb hr e0 hbd rv hl SM e1 fun p us' sg' H' E SP np hp q => ?_
        obtain ⟨EX, SB, hL⟩ := ends SM hio E e2 (P := With Pr p) (fun _ h => .inl h) SP (fun a h n => h.elim (fun z => absurd z n) fun z => by rw [z]; exact np)
        refine hq p us' H' ⟨EX, SB, np, hp, q.mono fun a o h n => ⟨h, fun z => n ?_⟩⟩
        rcases hL a z with z | ⟨i, _, xs, h1, h2⟩
        · exact .inl z
        · exact .inr ⟨i, xs, h1, h2⟩
      · cases hF
    · cases hF
  · cases hF
end
end DL

namespace DL
open PySem PySem.Spec L2

/-! ### a call of a def of the text -/
/-- what is handed over -/
def argSl : Opd → Option D → DL.Env → Option Sl
  | .ex _, some x, _ => some (.d x)
  | .ex _, none, _ => none
  | .sl i, _, r => match r[i]? with | some (some y) => some y | _ => none
def args : List Opd → List (Option D) → DL.Env → Option (List Sl)
  | [], [], _ => some []
  | o :: os, x :: xs, r => match argSl o x r with
    | some a => match args os xs r with | some as => some (a :: as) | none => none
    | none => none
  | _, _, _ => none
/-- the lists that are handed over: which slots -/
def gv1 : Opd → Sl → List Nat
  | .sl i, .own _ => [i]
  | _, _ => []
def given : List Opd → List Sl → List Nat
  | [], _ => []
  | _ :: _, [] => []
  | o :: os, a :: as => gv1 o a ++ given os as
def bk1 : Opd → Sl → DL.Env → DL.Env
  | .sl i, .own ys, r => r.set i (some (.own ys))
  | _, _, r => r
def back : List Opd → List Sl → DL.Env → DL.Env
  | [], _, r => r
  | _ :: _, [], r => r
  | o :: os, a :: as, r => back os as (bk1 o a r)
def mFn (F : FSem) (os : List Opd) : SE := fun r => match preAll os r with
  | some (xs, r1) => match args os xs r1 with
    | some as => if (given os as).Nodup then match F as with
      | some (d, as') => some (d, back os as' r1)
      | none => none else none
    | none => none
  | none => none
def nFn (F : FNew) (os : List Opd) : SA := fun r => match preAll os r with
  | some (xs, r1) => match args os xs r1 with
    | some as => if (given os as).Nodup then match F as with
      | some (d, as') => some (d, back os as' r1)
      | none => none else none
    | none => none
  | none => none
section
variable {K : PySem.W.Frag} {P : Addr → Prop} {sg : St} {r : DL.Env} {H H' : Hp}
theorem args_get : ∀ {os : List Opd} {xs : List (Option D)} {vs : List V} {as : List Sl} {k : Nat} {a : Sl}, PendL K P sg os vs xs r H → args os xs r = some as → as[k]? = some a →
    ∃ o x v, os[k]? = some o ∧ vs[k]? = some v ∧ Pend K P sg o v x r H ∧ argSl o x r = some a
  | [], xs, vs, as, k, a, h, e, ha => by
    obtain ⟨rfl, rfl⟩ := h
    cases e
    simp at ha
  | o :: os, _, _, as, k, a, ⟨v, vs', x, xs', rfl, rfl, h1, h2⟩, e, ha => by
    unfold args at e
    split at e
    · rename_i a0 e1
      split at e
      · rename_i as0 e2
        cases e
        cases k with
        | zero => simp at ha; subst ha; exact ⟨o, x, v, rfl, rfl, h1, e1⟩
        | succ k =>
          obtain ⟨o', x', v', k1, k2, k3, k4⟩ := args_get h2 e2 (show as0[k]? = some a by simpa using ha)
          exact ⟨o', x', v', by simpa using k1, by simpa using k2, k3, k4⟩
      · cases e
    · cases e
theorem args_len : ∀ {os : List Opd} {xs : List (Option D)} {vs : List V} {as : List Sl}, PendL K P sg os vs xs r H → args os xs r = some as → vs.length = as.length ∧ os.length = as.length
  | [], xs, vs, as, h, e => by
    obtain ⟨rfl, rfl⟩ := h
    cases e
    exact ⟨rfl, rfl⟩
  | o :: os, _, _, as, ⟨v, vs', x, xs', rfl, rfl, h1, h2⟩, e => by
    unfold args at e
    split at e
    · split at e
      · rename_i as0 e2
        cases e
        have := args_len h2 e2
        exact ⟨congrArg (· + 1) this.1, congrArg (· + 1) this.2⟩
      · cases e
    · cases e
theorem given_mem : ∀ {os : List Opd} {as : List Sl} {k i : Nat} {xs : List D}, os[k]? = some (.sl i) → as[k]? = some (.own xs) → i ∈ given os as
  | [], _, k, i, xs, h, _ => by simp at h
  | o :: os, [], k, i, xs, _, h => by simp at h
  | o :: os, a :: as, 0, i, xs, h, h' => by
    simp at h h'
    subst h h'
    simp [given, gv1]
  | o :: os, a :: as, k + 1, i, xs, h, h' => by
    have := given_mem (os := os) (as := as) (by simpa using h) (by simpa using h')
    exact List.mem_append_right _ this
theorem given_inj : ∀ {os : List Opd} {as : List Sl} {k j i : Nat} {xs ys : List D}, (given os as).Nodup → os[k]? = some (.sl i) → as[k]? = some (.own xs) → os[j]? = some (.sl i) → as[j]? = some (.own ys) → k = j
  | [], _, k, j, i, xs, ys, _, h, _, _, _ => by simp at h
  | o :: os, [], k, j, i, xs, ys, _, _, h, _, _ => by simp at h
  | o :: os, a :: as, 0, 0, i, xs, ys, nd, h1, h2, h3, h4 => rfl
  | o :: os, a :: as, 0, j + 1, i, xs, ys, nd, h1, h2, h3, h4 => by
    simp at h1 h2
    subst h1 h2
    have := given_mem (os := os) (as := as) (by simpa using h3) (by simpa using h4)
    simp only [given, gv1, List.cons_append, List.nil_append, List.nodup_cons] at nd
    exact absurd this nd.1
  | o :: os, a :: as, k + 1, 0, i, xs, ys, nd, h1, h2, h3, h4 => by
    simp at h3 h4
    subst h3 h4
    have := given_mem (os := os) (as := as) (by simpa using h1) (by simpa using h2)
    simp only [given, gv1, List.cons_append, List.nil_append, List.nodup_cons] at nd
    exact absurd this nd.1
  | o :: os, a :: as, k + 1, j + 1, i, xs, ys, nd, h1, h2, h3, h4 => by
    have nd' : (given os as).Nodup := (List.nodup_append.mp (show (gv1 o a ++ given os as).Nodup from nd)).2.1
    exact congrArg (· + 1) (given_inj nd' (by simpa using h1) (by simpa using h2) (by simpa using h3) (by simpa using h4))
/-- what the callee must not touch -/
def Rest (P : Addr → Prop) (sg : St) (r : DL.Env) (vs : List V) (as : List Sl) : Addr → Prop := fun a => Lv P sg r a ∧ ¬ OwnA (stOf vs) (envOf as) a
theorem ownA_sub {os : List Opd} {xs : List (Option D)} {vs : List V} {as : List Sl} (hp : PendL K P sg os vs xs r H) (ha : args os xs r = some as) {k : Nat} {ys : List D} {a : Addr} (h1 : as[k]? = some (.own ys)) (h2 : vs[k]? = some (.ref a)) :
    ∃ i, os[k]? = some (.sl i) ∧ r[i]? = some (some (.own ys)) ∧ sg[i]? = some (some (.ref a)) := by
  obtain ⟨o, x, v, e1, e2, e3, e4⟩ := args_get hp ha h1
  rw [h2] at e2; cases e2
  cases o with
  | ex m => cases x <;> cases e4
  | sl i =>
    unfold argSl at e4
    simp only at e4
    split at e4
    · rename_i y e5
      cases e4
      exact ⟨i, e1, e5, e3⟩
    · cases e4
theorem callee_sim {os : List Opd} {xs : List (Option D)} {vs : List V} {as : List Sl} (S : Sim K P sg H r) (hp : PendL K P sg os vs xs r H) (ha : args os xs r = some as) (nd : (given os as).Nodup) :
    Sim K (Rest P sg r vs as) (stOf vs) H (envOf as) ∧ (∀ a, Lv (Rest P sg r vs as) (stOf vs) (envOf as) a ↔ Lv P sg r a) := by
  have ow : ∀ a, OwnA (stOf vs) (envOf as) a → OwnA sg r a := by
    rintro a ⟨k, ys, h1, h2⟩
    obtain ⟨i, _, e2, e3⟩ := ownA_sub hp ha (envOf_get.mp h1) (stOf_get.mp h2)
    exact ⟨i, ys, e2, e3⟩
  have lv : ∀ a, Lv (Rest P sg r vs as) (stOf vs) (envOf as) a ↔ Lv P sg r a := fun a => by
    constructor
    · rintro (h | h)
      · exact h.1
      · exact .inr (ow a h)
    · intro h
      by_cases z : OwnA (stOf vs) (envOf as) a
      · exact .inr z
      · exact .inl ⟨h, z⟩
  have la : Later (Lv P sg r) H (Lv (Rest P sg r vs as) (stOf vs) (envOf as)) H := fun a o h n => ⟨h, fun z => n ((lv a).mp z)⟩
  refine ⟨⟨?_, fun k x h => ?_, fun k x h => ?_, fun k x h => ?_, fun a h => S.lv a h.1, fun k j ys zs a h1 h2 h3 h4 => ?_, fun a z z' => z'.2 z⟩, lv⟩
  · have := (args_len hp ha).1
    unfold stOf envOf
    simpa using this
  · obtain ⟨o, y, v, e1, e2, e3, e4⟩ := args_get hp ha (envOf_get.mp h)
    refine ⟨v, stOf_get.mpr e2, ?_⟩
    cases o with
    | ex m =>
      obtain ⟨d, rfl, q⟩ := e3
      cases e4
      exact q.mono la
    | sl i =>
      unfold argSl at e4
      simp only at e4
      split at e4
      · rename_i z e5
        cases e4
        obtain ⟨u, k1, k2⟩ := S.dat i _ e5
        have e3 : sg[i]? = some (some v) := e3
        rw [e3] at k1; cases k1
        exact k2.mono la
      · cases e4
  · obtain ⟨o, y, v, e1, e2, e3, e4⟩ := args_get hp ha (envOf_get.mp h)
    cases o with
    | ex m => cases y <;> cases e4
    | sl i =>
      unfold argSl at e4
      simp only at e4
      split at e4
      · rename_i z e5
        cases e4
        obtain ⟨a, us, k1, k2, k3⟩ := S.own i _ e5
        have e3 : sg[i]? = some (some v) := e3
        rw [e3] at k1; cases k1
        exact ⟨a, us, stOf_get.mpr e2, k2, k3.mono la⟩
      · cases e4
  · obtain ⟨o, y, v, e1, e2, e3, e4⟩ := args_get hp ha (envOf_get.mp h)
    cases o with
    | ex m => cases y <;> cases e4
    | sl i =>
      unfold argSl at e4
      simp only at e4
      split at e4
      · rename_i z e5
        cases e4
        obtain ⟨a, k1, k2⟩ := S.scr i _ e5
        have e3 : sg[i]? = some (some v) := e3
        rw [e3] at k1; cases k1
        refine ⟨a, stOf_get.mpr e2, k2.map fun ob k2 k3 => ⟨k2, fun z => ?_⟩⟩
        rcases z.1 with z | ⟨j, ws, j1, j2⟩
        · exact k3 z
        · obtain ⟨b, us, l1, l2, _⟩ := S.own j ws j1
          rw [j2] at l1; cases l1
          rw [k2] at l2; cases l2
      · cases e4
  · obtain ⟨i, e1, e2, e3⟩ := ownA_sub hp ha (envOf_get.mp h1) (stOf_get.mp h3)
    obtain ⟨i', e1', e2', e3'⟩ := ownA_sub hp ha (envOf_get.mp h2) (stOf_get.mp h4)
    have := S.sep i i' ys zs a e2 e2' e3 e3'
    subst this
    exact given_inj nd e1 (envOf_get.mp h1) e1' (envOf_get.mp h2)
theorem back_length : ∀ (os : List Opd) (as : List Sl) (r : DL.Env), (back os as r).length = r.length
  | [], _, r => rfl
  | _ :: _, [], r => rfl
  | o :: os, a :: as, r => by
    unfold back
    rw [back_length os as]
    unfold bk1
    split
    · rw [List.length_set]
    · rfl
/-- a slot behind a call -/
theorem back_get : ∀ {os : List Opd} {as as' : List Sl} {r : DL.Env} {j : Nat}, as'.length = as.length → (∀ (k : Nat) ys, as'[k]? = some (.own ys) → ∃ zs, as[k]? = some (.own zs)) → (given os as).Nodup → (∀ i ∈ given os as, i < r.length) →
    (∃ (k : Nat) (ys : List D), os[k]? = some (Opd.sl j) ∧ as'[k]? = some (Sl.own ys) ∧ (back os as' r)[j]? = some (some (Sl.own ys))) ∨ ((∀ (k : Nat) ys, os[k]? = some (.sl j) → as'[k]? ≠ some (.own ys)) ∧ (back os as' r)[j]? = r[j]?)
  | [], as, as', r, j, _, _, _, _ => .inr ⟨by simp, rfl⟩
  | o :: os, as, [], r, j, _, _, _, _ => .inr ⟨by simp, rfl⟩
  | o :: os, [], a :: as', r, j, h, _, _, _ => by simp at h
  | o :: os, b :: as, a :: as', r, j, hl, hs, nd, hr => by
    have hl' : as'.length = as.length := by simpa using hl
    have hs' : ∀ (k : Nat) ys, as'[k]? = some (.own ys) → ∃ zs, as[k]? = some (.own zs) := fun k ys h => by
      have := hs (k + 1) ys (by simpa using h)
      simpa using this
    have gsub : ∀ i ∈ given os as, i ∈ given (o :: os) (b :: as) := fun i hi => List.mem_append_right _ hi
    have nd' : (given os as).Nodup := (List.nodup_append.mp (show (gv1 o b ++ given os as).Nodup from nd)).2.1
    by_cases ho : ∃ i ys, o = .sl i ∧ a = .own ys
    · obtain ⟨i, ys, rfl, rfl⟩ := ho
      obtain ⟨zs, e0⟩ := hs 0 ys rfl
      simp at e0
      subst e0
      have eb : back (.sl i :: os) (.own ys :: as') r = back os as' (r.set i (some (.own ys))) := rfl
      have ni : i ∉ given os as := by
        simp only [given, gv1, List.cons_append, List.nil_append, List.nodup_cons] at nd
        exact nd.1
      have hi : i < r.length := hr i (by simp [given, gv1])
      rw [eb]
      rcases back_get (os := os) (as := as) (as' := as') (r := r.set i (some (.own ys))) (j := j) hl' hs' nd' (fun k hk => by rw [List.length_set]; exact hr k (gsub k hk)) with ⟨k, ws, k1, k2, k3⟩ | ⟨k1, k2⟩
      · exact .inl ⟨k + 1, ws, by simpa using k1, by simpa using k2, k3⟩
      · by_cases hij : i = j
        · subst hij
          refine .inl ⟨0, ys, rfl, rfl, ?_⟩
          rw [k2, List.getElem?_set_self hi]
        · refine .inr ⟨fun k ws h1 h2 => ?_, by rw [k2, List.getElem?_set_ne hij]⟩
          cases k with
          | zero => simp at h1; exact hij h1
          | succ k => exact k1 k ws (by simpa using h1) (by simpa using h2)
    · have eb : back (o :: os) (a :: as') r = back os as' r := by
        cases o with
        | ex m => rfl
        | sl i =>
          cases a with
          | own ys => exact absurd ⟨i, ys, rfl, rfl⟩ ho
          | d x => rfl
          | scr x => rfl
      rw [eb]
      rcases back_get (os := os) (as := as) (as' := as') (r := r) (j := j) hl' hs' nd' (fun k hk => hr k (gsub k hk)) with ⟨k, ws, k1, k2, k3⟩ | ⟨k1, k2⟩
      · exact .inl ⟨k + 1, ws, by simpa using k1, by simpa using k2, k3⟩
      · refine .inr ⟨fun k ws h1 h2 => ?_, k2⟩
        cases k with
        | zero => simp at h1 h2; exact ho ⟨j, ws, h1, h2⟩
        | succ k => exact k1 k ws (by simpa using h1) (by simpa using h2)
theorem given_own : ∀ {os : List Opd} {xs : List (Option D)} {vs : List V} {as : List Sl}, PendL K P sg os vs xs r H → args os xs r = some as → ∀ i ∈ given os as, ∃ ys, r[i]? = some (some (.own ys))
  | [], xs, vs, as, h, e, i, hi => by
    obtain ⟨rfl, rfl⟩ := h
    cases e
    simp [given] at hi
  | o :: os, _, _, as, ⟨v, vs', x, xs', rfl, rfl, h1, h2⟩, e, i, hi => by
    unfold args at e
    split at e
    · rename_i a0 e1
      split at e
      · rename_i as0 e2
        cases e
        have ih := given_own h2 e2
        cases o with
        | ex m => exact ih i hi
        | sl j =>
          cases a0 with
          | own ys =>
            rcases List.mem_cons.mp (show i ∈ j :: given os as0 from hi) with z | z
            · subst z
              unfold argSl at e1
              simp only at e1
              split at e1
              · rename_i y e5; cases e1; exact ⟨ys, e5⟩
              · cases e1
            · exact ih i z
          | d y => exact ih i hi
          | scr y => exact ih i hi
      · cases e
    · cases e
/-- back from a call -/
theorem caller_ext {P' : Addr → Prop} {os : List Opd} {xs : List (Option D)} {vs : List V} {as as' : List Sl} (S : Sim K P sg H r) (hp : PendL K P sg os vs xs r H) (ha : args os xs r = some as) (nd : (given os as).Nodup)
    (E : Ext K (Rest P sg r vs as) (stOf vs) (envOf as) H (envOf as') H') {N : Addr → Prop} (SN : Sim K (fun a => Rest P sg r vs as a ∨ N a) (stOf vs) H' (envOf as')) (hN : ∀ a, N a → H a = none) :
    Ext K P sg r H (back os as' r) H' ∧ Sim K (fun a => P a ∨ N a) sg H' (back os as' r) ∧ (∀ a, Lv (fun a => P a ∨ N a) sg (back os as' r) a ↔ Lv (fun a => Rest P sg r vs as a ∨ N a) (stOf vs) (envOf as') a) := by
  obtain ⟨CS, lv⟩ := callee_sim S hp ha nd
  have hl : as'.length = as.length := by
    have h1 := sim_len CS
    have h2 := sim_len E.sim
    omega
  have hs : ∀ (k : Nat) ys, as'[k]? = some (.own ys) → ∃ zs, as[k]? = some (.own zs) := fun k ys h => by
    obtain ⟨zs, e⟩ := (E.shape k).mp ⟨ys, envOf_get.mpr h⟩
    exact ⟨zs, envOf_get.mp e⟩
  have hs2 : ∀ (k : Nat) ys, as[k]? = some (.own ys) → ∃ zs, as'[k]? = some (.own zs) := fun k ys h => by
    obtain ⟨zs, e⟩ := (E.shape k).mpr ⟨ys, envOf_get.mpr h⟩
    exact ⟨zs, envOf_get.mp e⟩
  have hr : ∀ i ∈ given os as, i < r.length := fun i hi => by
    obtain ⟨ys, e⟩ := given_own hp ha i hi
    exact (List.getElem?_eq_some_iff.mp e).1
  have bg := fun j => back_get (r := r) (j := j) hl hs nd hr
  have lens := args_len hp ha
  have own_k : ∀ {k j : Nat} {ys : List D}, os[k]? = some (.sl j) → as'[k]? = some (.own ys) → ∃ zs a, as[k]? = some (.own zs) ∧ r[j]? = some (some (.own zs)) ∧ sg[j]? = some (some (.ref a)) ∧ vs[k]? = some (.ref a) := fun {k j ys} h1 h2 => by
    obtain ⟨zs, e⟩ := hs k ys h2
    obtain ⟨a, us, k1, _, _⟩ := CS.own k zs (envOf_get.mpr e)
    obtain ⟨i, e1, e2, e3⟩ := ownA_sub hp ha e (stOf_get.mp k1)
    rw [h1] at e1; cases e1
    exact ⟨zs, a, e, e2, e3, stOf_get.mp k1⟩
  have sh : ∀ j : Nat, (∃ xs, (back os as' r)[j]? = some (some (Sl.own xs))) ↔ ∃ xs, r[j]? = some (some (Sl.own xs)) := fun j => by
    rcases bg j with ⟨k, ys, k1, k2, k3⟩ | ⟨k1, k2⟩
    · obtain ⟨zs, a, e1, e2, _⟩ := own_k k1 k2
      exact ⟨fun _ => ⟨zs, e2⟩, fun _ => ⟨ys, k3⟩⟩
    · rw [k2]
  have ow : ∀ a, OwnA sg (back os as' r) a ↔ OwnA sg r a := fun a => by
    constructor
    · rintro ⟨i, ys, h1, h2⟩
      obtain ⟨ws, h⟩ := (sh i).mp ⟨ys, h1⟩
      exact ⟨i, ws, h, h2⟩
    · rintro ⟨i, ys, h1, h2⟩
      obtain ⟨ws, h⟩ := (sh i).mpr ⟨ys, h1⟩
      exact ⟨i, ws, h, h2⟩
  have lv2 : ∀ a, Lv (fun a => P a ∨ N a) sg (back os as' r) a ↔ Lv (fun a => Rest P sg r vs as a ∨ N a) (stOf vs) (envOf as') a := fun a => by
    have l := lv a
    constructor
    · rintro ((z | z) | z)
      · rcases l.mpr (.inl z) with q | q
        · exact .inl (.inl q)
        · exact .inr ((E.own a).mpr q)
      · exact .inl (.inr z)
      · rcases l.mpr (.inr ((ow a).mp z)) with q | q
        · exact .inl (.inl q)
        · exact .inr ((E.own a).mpr q)
    · rintro ((z | z) | z)
      · rcases z.1 with q | q
        · exact .inl (.inl q)
        · exact .inr ((ow a).mpr q)
      · exact .inl (.inr z)
      · rcases l.mp (.inr ((E.own a).mp z)) with q | q
        · exact .inl (.inl q)
        · exact .inr ((ow a).mpr q)
  have la : Later (Lv P sg r) H (Lv (fun a => P a ∨ N a) sg (back os as' r)) H' := fun a o h n => by
    refine ⟨E.keep a o h fun z => n ((lv a).mp (.inr z)), fun z => ?_⟩
    rcases z with (z | z) | z
    · exact n (.inl z)
    · rw [hN a z] at h; cases h
    · exact n (.inr ((ow a).mp z))
  have SB : Sim K (fun a => P a ∨ N a) sg H' (back os as' r) := by
    refine ⟨by rw [back_length]; exact S.len, fun j x h => ?_, fun j x h => ?_, fun j x h => ?_, fun a h => ?_, fun i j ys zs a h1 h2 h3 h4 => ?_, fun a z z' => ?_⟩
    · rcases bg j with ⟨k, ys, k1, k2, k3⟩ | ⟨k1, k2⟩
      · rw [k3] at h; cases h
      · rw [k2] at h
        obtain ⟨v, l1, l2⟩ := S.dat j x h
        exact ⟨v, l1, l2.mono la⟩
    · rcases bg j with ⟨k, ys, k1, k2, k3⟩ | ⟨k1, k2⟩
      · rw [k3] at h; cases h
        obtain ⟨zs, a, e1, e2, e3, e4⟩ := own_k k1 k2
        obtain ⟨a', us, l1, l2, l3⟩ := SN.own k x (envOf_get.mpr k2)
        rw [stOf_get.mpr e4] at l1; cases l1
        exact ⟨a, us, e3, l2, l3.mono fun a o h n => ⟨h, fun z => n ((lv2 a).mp z)⟩⟩
      · rw [k2] at h
        obtain ⟨a, us, l1, l2, l3⟩ := S.own j x h
        refine ⟨a, us, l1, E.keep a _ l2 fun z => ?_, l3.mono la⟩
        obtain ⟨k, ws, w1, w2⟩ := z
        obtain ⟨i, e1, e2, e3⟩ := ownA_sub hp ha (envOf_get.mp w1) (stOf_get.mp w2)
        have := S.sep i j ws x a e2 h e3 l1
        subst this
        obtain ⟨zs, e5⟩ := hs2 k ws (envOf_get.mp w1)
        exact k1 k zs e1 e5
    · rcases bg j with ⟨k, ys, k1, k2, k3⟩ | ⟨k1, k2⟩
      · rw [k3] at h; cases h
      · rw [k2] at h
        obtain ⟨a, l1, l2⟩ := S.scr j x h
        refine ⟨a, l1, l2.map fun o l2 l3 => ⟨E.keep a _ l2 fun z => ?_, fun z => z.elim l3 fun z => by rw [hN a z] at l2; cases l2⟩⟩
        rcases (lv a).mp (.inr z) with q | ⟨i, ws, w1, w2⟩
        · exact l3 q
        · obtain ⟨b, us, v1, v2, _⟩ := S.own i ws w1
          rw [w2] at v1; cases v1
          rw [l2] at v2; cases v2
    · rcases h with h | h
      · rcases (lv a).mpr (.inl h) with q | q
        · exact SN.prot a (.inl q)
        · obtain ⟨o, e⟩ := SN.lv a (.inr ((E.own a).mpr q))
          exact ⟨o, e⟩
      · exact SN.prot a (.inr h)
    · obtain ⟨ys', f1⟩ := (sh i).mp ⟨ys, h1⟩
      obtain ⟨zs', f2⟩ := (sh j).mp ⟨zs, h2⟩
      exact S.sep i j ys' zs' a f1 f2 h3 h4
    · have z := (ow a).mp z
      rcases z' with z' | z'
      · exact S.nP a z z'
      · obtain ⟨o, e⟩ := S.lv a (.inr z)
        rw [hN a z'] at e; cases e
  exact ⟨⟨SB.less fun a h => .inl h, sh, fun a o h n => E.keep a o h fun z => by
    rcases (lv a).mp (.inr z) with q | q
    · obtain ⟨k, ws, w1, w2⟩ := z
      obtain ⟨i, e1, e2, e3⟩ := ownA_sub hp ha (envOf_get.mp w1) (stOf_get.mp w2)
      exact n ⟨i, ws, e2, e3⟩
    · exact n q⟩, SB, lv2⟩
end
section
variable {X : Cx} {k : Nat} {f : Addr} {fd : FuncData} {ps : List Str} {x : Str} {p pos : Pos} {e : Expr} {es : List Expr} {os : List Opd}
/-- a def of the text, found by its name -/
structure DefAt (X : Cx) (x : Str) (f : Addr) (fd : FuncData) (ps : List Str) : Prop where
  g : Gl X x
  m : X.mg x = some (.ref f)
  kp : PySem.W.keepIn X.K (.ref f) = true
  b : Binds X.K fd ps []
  db : (x == ("__debug__" : Str)) = false
theorem run_call {pins : List (Addr × Obj)} {sg : St} {H : Hp} {s : Shared} {Q : VK} {v : Value} {us : List Value} {kw : List (Str × Value)} (I : Inv X pins sg H s) (h : codeAny (model X.prog X.w) X.A (.call v ⟨us, kw⟩) (CR CX0 X.stack X.prog X.w H s Q E0) s) :
    wpAny (model X.prog X.w) X.A (call v us kw) (EP X pins sg Q) X.xe s := by
  refine wpAny_call (codeAny_mono h fun r s' hq => ?_)
  cases r with
  | error er => exact hq.elim
  | ok fl =>
    cases fl with
    | ret u => exact I.after hq
    | next => exact hq.elim
    | brk => exact hq.elim
    | cont => exact hq.elim
/-- a call's reading: what is done with the arguments -/
theorem ue_call {Q : VK} {sg : St} {H : Hp} (A : DefAt X x f fd ps) (N : NoStar X e es pos) (h : UA X (e :: es) sg H fun vs H1 => ∀ pins s us, Inv X pins sg H1 s → Vals vs us →
      us.length = ps.length ∧ codeAny (model X.prog X.w) X.A (.call (.ref f) ⟨us, []⟩) (CR CX0 X.stack X.prog X.w H1 s Q E0) s) : UE X (.Call (.Name x p) (e :: es) [] pos) sg H Q := by
  intro pins s I
  refine wpAny_Call_Name_kw (ld_glob I A.g A.m ?_ A.db)
  refine PySem.W.callWith_K (h₀ := X.base) I.ok.mod.kin A.kp (thn (h pos pins s I) fun us s1 q => ?_) N.he N.hpl
  obtain ⟨vs, H1, I1, r, q⟩ := q
  exact ⟨I1.kIn, run_call I1 (q pins s1 us I1 r).2⟩
theorem okE_fn {F : FSem} (A : DefAt X x f fd ps) (G : FnG X.prog X.w X.K X.mg X.base k f fd ps F) (hr : RoomG k X.A) (N : NoStar X e es pos) (hl : (e :: es).length = ps.length) (ho : OkAO X (e :: es) os) (hol : os.length = (e :: es).length) :
    OkE X (.Call (.Name x p) (e :: es) [] pos) (mFn F os) := by
  intro P sg H r Q d r' S hm hq
  unfold mFn at hm
  split at hm
  · rename_i xs r1 e1
    split at hm
    · rename_i as e2
      split at hm
      · rename_i nd
        split at hm
        · rename_i d0 as' e3
          cases hm
          refine ue_call A N (ho P sg H r _ xs r1 S e1 fun vs H1 E1 q1 => fun pins s us I rv => ?_)
          have hvl : vs.length = ps.length := by rw [(args_len q1 e2).1, ← (args_len q1 e2).2, hol, hl]
          have hul : us.length = ps.length := by rw [← rv.length]; exact hvl
          obtain ⟨CS, lv⟩ := callee_sim E1.sim q1 e2 nd
          refine ⟨hul, G.run X.A X.stack s H1 ⟨us, []⟩ us vs _ as as' d Q hr I.env0 ?_ rv hvl CS e3 fun v H2 E2 q2 => ?_⟩
          · have := A.b s us I.kIn (by rw [List.append_nil]; exact hul)
            rwa [List.append_nil] at this
          · obtain ⟨E3, _, lv3⟩ := caller_ext (P' := P) E1.sim q1 e2 nd E2 (N := fun _ => False) (E2.sim.less fun a h => h.elim id False.elim) (fun a h => h.elim)
            refine hq v H2 (E1.trans E3) (q2.mono fun a o h n => ⟨h, fun z => n ?_⟩)
            rcases (lv3 a).mp (z.elim (fun z => .inl (.inl z)) .inr) with (z | z) | z
            · exact .inl z
            · exact z.elim
            · exact .inr z
        · cases hm
      · cases hm
    · cases hm
  · cases hm
theorem okN_fn {F : FNew} (A : DefAt X x f fd ps) (G : FnN X.prog X.w X.K X.mg X.base k f fd ps F) (hr : RoomG k X.A) (N : NoStar X e es pos) (hl : (e :: es).length = ps.length) (ho : OkAO X (e :: es) os) (hol : os.length = (e :: es).length) :
    OkN X (.Call (.Name x p) (e :: es) [] pos) (nFn F os) := by
  intro P sg H r Q d r' S hm hq
  unfold nFn at hm
  split at hm
  · rename_i xs r1 e1
    split at hm
    · rename_i as e2
      split at hm
      · rename_i nd
        split at hm
        · rename_i d0 as' e3
          cases hm
          refine ue_call A N (ho P sg H r _ xs r1 S e1 fun vs H1 E1 q1 => fun pins s us I rv => ?_)
          have hvl : vs.length = ps.length := by rw [(args_len q1 e2).1, ← (args_len q1 e2).2, hol, hl]
          have hul : us.length = ps.length := by rw [← rv.length]; exact hvl
          obtain ⟨CS, lv⟩ := callee_sim E1.sim q1 e2 nd
          refine ⟨hul, G.run X.A X.stack s H1 ⟨us, []⟩ us vs _ as as' d Q hr I.env0 ?_ rv hvl CS e3 fun q ws H2 n => ?_⟩
          · have := A.b s us I.kIn (by rw [List.append_nil]; exact hul)
            rwa [List.append_nil] at this
          · obtain ⟨E3, S3, lv3⟩ := caller_ext (P' := P) E1.sim q1 e2 nd n.ext (N := fun a => a = q) n.sim (fun a h => by rw [h]; exact n.new)
            refine hq q ws H2 ⟨E1.trans E3, S3, E1.none n.new, n.here, n.rep.mono fun a o h k => ⟨h, fun z => k ((lv3 a).mp z)⟩⟩
        · cases hm
      · cases hm
    · cases hm
  · cases hm
end
end DL

namespace DL
open PySem PySem.Spec L2
open PySem in
theorem enum_new1 {v : Value} {o : Obj} {HH : Heap → Prop} (B : Begins v o HH) :
    Meets (Builtin.«enumerate.__new__» ⟨[.type "enumerate", v], []⟩) (fun _ R s => HH s.heap ∧
      R (.ok (.ret (.ref (s.heap.push o).objs.size))) { s with heap := (s.heap.push o).push { cls := .type "enumerate", data := .fields #[.none, .bool false, .ref s.heap.objs.size, rawInt 0, .none, .none] } }) :=
  .of_wp fun prog w A R s h => by
    obtain ⟨hp, g, d, tk, os⟩ := s
    obtain ⟨h1, h⟩ := h
    have hsub := sub_enumerate
    have q1 : ∀ {A' : Around} {E : Value → Shared → Prop} {Q : Value → Shared → Prop}, Q (.ref hp.objs.size) ⟨hp.push o, g, d, tk, os⟩ → wpAny (model prog w) A' (pyIter v) Q E ⟨hp, g, d, tk, os⟩ :=
      fun q => B.iter prog w _ _ ⟨hp, g, d, tk, os⟩ _ h1 q
    wp_walk using q1
    refine wpAny_stack_any fun st => wpAny_pure ?_
    split
    · rename_i c _ _ _ _ _
      cases (c == Value.type "enumerate") <;> (wp_walk using q1; exact ⟨_, rfl, h⟩)
    · wp_walk using q1
      exact ⟨_, rfl, h⟩
theorem call_enum1 {prog : Program} {w : World} {A : Around} {E : Value → Shared → Prop} {s : Shared} {v : Value} {o : Obj} {HH : Heap → Prop} {Q : Value → Shared → Prop} (B : Begins v o HH) (h1 : HH s.heap)
    (h : ∀ h', IsEnum h' (s.heap.objs.size + 1) s.heap.objs.size 0 .none → h'.get? s.heap.objs.size = some o → (∀ b o, s.heap.get? b = some o → h'.get? b = some o) → Q (.ref (s.heap.objs.size + 1)) { s with heap := h' }) :
    wpAny (model prog w) A (call (.type "enumerate") [v]) Q E s := by
  refine callType_new F.called_enumerate (by decide) (F.typeCall_enumerate_1 _) (F.newCall_enumerate_1 _) (fun obj => F.args_object_init_2 obj _) F.entry_enumerate_new (enum_new1 B) ⟨h1, ?_⟩
  have hz : (s.heap.push o).objs.size = s.heap.objs.size + 1 := Heap.size_push ..
  show _ ∧ _
  rw [hz]
  have he : IsEnum ((s.heap.push o).push { cls := .type "enumerate", data := .fields #[.none, .bool false, .ref s.heap.objs.size, rawInt 0, .none, .none] }) (s.heap.objs.size + 1) s.heap.objs.size 0 .none := by
    have hh := Heap.get?_push_size (s.heap.push o) (o := { cls := .type "enumerate", data := .fields #[.none, .bool false, .ref s.heap.objs.size, rawInt 0, .none, .none] }) rfl
    rw [hz] at hh
    exact hh
  exact ⟨⟨_, he, rfl⟩, h _ he (Heap.get?_push_of_some _ (Heap.get?_push_size _ B.free)) fun b ob x => Heap.get?_push_of_some _ (Heap.get?_push_of_some _ x)⟩
/-- enumerate of a tuple -/
def IteT (K : PySem.W.Frag) (a : Addr) : It :=
  ⟨fun i H => ∃ xs x, SqT K H a xs ∧ xs[i]? = some x, fun i H v H' => ∃ T x, v = .ref T ∧ H T = none ∧ H' = upd H T (.tup [.int (i : Nat), x]) ∧ ∀ xs, SqT K H a xs → xs[i]? = some x, fun i H => ∃ xs, SqT K H a xs ∧ xs.length = i⟩
theorem turn_enumT {P : Program} {w : World} {K : PySem.W.Frag} {elts : List Expr} {kk : Nat} {tpos : Pos} (a e it : Addr) :
    Turn P w K (.Tuple elts kk tpos) (IteT K a) [e, it] e (fun i h => (∃ old, IsEnum h e it ((0 : Int) + (i : Int)) old) ∧ h.IsTupleIter it a i ∧ e ≠ it ∧ e ≠ a ∧ it ≠ a) where
  mem := by simp
  obj := fun i h st b hb => by
    obtain ⟨⟨old, he⟩, ⟨o, ho, hc, hd⟩, _⟩ := st
    have e' : b = e ∨ b = it := by simpa using hb
    rcases e' with z | z
    · rw [z]; exact ⟨_, he, fun v q => nomatch q⟩
    · rw [z]; exact ⟨o, ho, fun v q => by rw [hd] at q; cases q⟩
  keep := fun i h h' st k => let ⟨⟨old, he⟩, hi, hne⟩ := st; ⟨⟨old, k e (by simp) _ he⟩, hi.at fun o q => k it (by simp) o q, hne⟩
  item := by
    intro X hP hw hK hc i pins s sg H E I hf st hg
    subst hP hw hK
    obtain ⟨he, hit, hne, hea, hia⟩ := st
    obtain ⟨xs, x, hq, hx⟩ := hg
    obtain ⟨its, rv, p, hz⟩ := I.tuple hq
    obtain ⟨u, hu, ru⟩ := rv.get hx
    have hlt : i < its.toArray.size := by
      have := (List.getElem?_eq_some_iff.mp hu).1
      simpa using this
    have D := Draws.tuple (prog := X.prog) (w := X.w) (A := X.A.in1) (I.ok.hd hc) it a hia.symm its.toArray
    have W := GoesN.enumFrom (elts := elts) (x1 := kk) (pos := tpos) 0 D e hne (by simp [hne, hea]) (by simp)
    refine thn (W.goes i s (fun v s2 => ∃ x' H', Inv X pins sg H' s2 ∧ RelV x' v ∧ (IteT X.K a).yld i H x' H' ∧ _ ∧ ∀ b ∈ [e, it], H' b = none) E hlt ⟨he, hit, p⟩ fun v h' tk hY hSt hk _ => ?_) fun r s1 h1 => h1
    obtain ⟨T, t, y, rfl, hT, hy, hTt⟩ := hY
    have ey : y = u := by
      have hy' : its[i]? = some y := by simpa using hy
      rw [hu] at hy'
      exact (Option.some.inj hy').symm
    subst ey
    have new : ObjOk X.prog X.w (upd H T (.tup [.int (i : Nat), x])) h' T (.tup [.int (i : Nat), x]) :=
      ⟨by show 2 ≤ sizeLine; decide, [.int (0 + (i : Int)) t, y], .cons ⟨t, by rw [Int.zero_add]⟩ (.cons ru .nil), hTt⟩
    have I1 : Inv X pins sg (upd H T (.tup [.int (i : Nat), x])) { s with heap := h', toks := tk } := I.turnedNew (ch := [e, it]) (fun b ob hb q => hk b ob hb q) hf hT new
    have hTn : H T = none := I.hok.fresh hT
    refine ⟨.ref T, _, I1, rfl, ⟨T, x, rfl, hTn, rfl, fun ys hy => by rw [I.tuple_inj hy hq]; exact hx⟩, ⟨?_, hSt.2.1, hne, hea, hia⟩, fun b hb => ?_⟩
    · obtain ⟨old, ho⟩ := hSt.1
      exact ⟨old, ho⟩
    · have lt : b < s.heap.objs.size := by
        obtain ⟨old, ho⟩ := he
        obtain ⟨oi, hoi, _⟩ := hit
        have e' : b = e ∨ b = it := by simpa using hb
        rcases e' with z | z
        · rw [z]; exact Heap.lt_size ho
        · rw [z]; exact Heap.lt_size hoi
      rw [upd_ne (Nat.ne_of_lt (Nat.lt_of_lt_of_le lt hT))]
      exact (hf b hb).1
  done := by
    intro X hP hw hK hc i pins s sg H E I hf st hg
    subst hP hw hK
    obtain ⟨he, hit, hne, hea, hia⟩ := st
    obtain ⟨xs, hq, hx⟩ := hg
    obtain ⟨its, rv, p, hz⟩ := I.tuple hq
    have D := Draws.tuple (prog := X.prog) (w := X.w) (A := X.A.in1) (I.ok.hd hc) it a hia.symm its.toArray
    have W := GoesN.enumFrom (elts := elts) (x1 := kk) (pos := tpos) 0 D e hne (by simp [hne, hea]) (by simp)
    have en : its.toArray.size = i := by
      have := rv.length
      simp only [List.size_toArray]
      omega
    refine thn (W.stops s (fun s1 => Inv X pins sg H s1) E (by rw [en]; exact ⟨he, hit, p⟩) fun h' tk hk _ => ?_) fun r s1 h1 => h1
    refine I.step (g' := s.gens) (d' := s.drawn) (ch := [e, it]) (fun b hb => ⟨(hf b hb).2.2.2.1, (hf b hb).2.1, (hf b hb).2.2.2.2.1, (hf b hb).2.2.2.2.2⟩) (fun b o _ _ hc' e' _ => hk b o hc' e') (fun b o _ _ hc' e' _ => ⟨o.slots, hk b o hc' e'⟩) (fun _ _ _ _ n => n)
      (fun b o hc' e' => ⟨o, hk b o hc' e'⟩) (fun _ _ q => q) (fun _ _ _ q => q) (fun b ps q => ⟨#[], by rw [q]; simp⟩) (fun m hm => ?_) (fun b u q => ?_) I.bare
    · obtain ⟨o, es, ep, ho, rr⟩ := hm
      refine ⟨o, es, ep, hk _ o (fun z => (hf _ z).2.1 rfl) ho, rr⟩
    · refine (I.hok b u q).stay (fun c v hc' q' => hk c v (fun z => ?_) q') (fun _ q' => q') fun _ _ q' => q'
      have := (hf c z).1
      rcases hc' with z' | z'
      · rw [z', q] at this; cases this
      · rw [z'] at this; cases this
  self := fun A i s Q E st h => let ⟨⟨_, he⟩, _⟩ := st; wpAny_pyIter_enum he h
def iEnumTp (K : PySem.W.Frag) (ta : TA) : TI := fun sg H R => ta sg H fun vs H1 => ∃ a xs, vs = [.ref a] ∧ SqT K H1 a xs ∧ R (IteT K a) H1
theorem pi_enumT {X : Cx} {e : Expr} {ta : TA} {p pos tpos : Pos} {elts : List Expr} {kk : Nat} (hg : Gl X "enumerate") (hm : X.mg "enumerate" = none) (ha : PA X [e] ta) (hs : starEach [e] X.env = [(false, eval e X.env)]) :
    PI X (.Tuple elts kk tpos) (.Call (.Name "enumerate" p) [e] [] pos) (iEnumTp X.K ta) := by
  refine ⟨fun pins s sg H R I h => ?_⟩
  refine PyProof.Rows.Call_ (ld_blt I hg hm (u := .type "enumerate") (by decide +kernel) (PyProof.Rows.callWith_type1 (thn (ha.run pos pins s sg H _ I h) fun us s1 q0 => ?_) hs rfl))
  obtain ⟨vs, H1, I1, r1, a, xs, ex, hq, q⟩ := q0
  subst ex
  cases r1 with
  | cons r rr =>
    cases rr
    cases r
    obtain ⟨its, rv, p', hz⟩ := I1.tuple hq
    refine call_enum1 (begins_tuple a its.toArray) p' fun h' he hit hk => wpAny_pyIter_enum he ?_
    have I2 : Inv X pins sg H1 { s1 with heap := h' } := I1.kept (t' := s1.toks) hk
    have la : a < s1.heap.objs.size := p'.lt
    refine ⟨s1.heap.objs.size + 1, [s1.heap.objs.size + 1, s1.heap.objs.size], _, _, H1, rfl, I2, turn_enumT a (s1.heap.objs.size + 1) s1.heap.objs.size, ⟨⟨.none, he⟩, ⟨_, hit, rfl, rfl⟩, Nat.succ_ne_self _, Nat.ne_of_gt (Nat.lt_succ_of_lt la), Nat.ne_of_gt la⟩, fun b hb => ?_, q⟩
    have hle : s1.heap.objs.size ≤ b := by
      have e' : b = s1.heap.objs.size + 1 ∨ b = s1.heap.objs.size := by simpa using hb
      rcases e' with z | z
      · rw [z]; exact Nat.le_succ _
      · rw [z]; exact Nat.le_refl _
    exact I1.fpOk hle (I1.hok.fresh hle)
theorem feeds_enumT {K : PySem.W.Frag} {L : Addr → Prop} {H : Hp} {a : Addr} {xs : List D} (h : Rep K L H (.ref a) (.tuple xs)) : Feeds K L H (IteT K a) (enumD 0 xs) := by
  intro L' H' la hL i
  obtain ⟨_, us, e, _, sq, r⟩ := SqT.later h la
  cases e
  refine ⟨fun d hd => ?_, fun hi => ⟨us, sq, ?_⟩⟩
  · obtain ⟨x, h1, rfl⟩ := enumD_get hd
    obtain ⟨u, hu, ru⟩ := r.get h1
    refine ⟨⟨us, u, sq, hu⟩, fun v H2 q => ?_⟩
    obtain ⟨T, x', rfl, nT, rfl, f1⟩ := q
    have e1 : x' = u := Option.some.inj ((f1 _ sq).symm.trans hu)
    rw [← e1] at ru
    have g : ∀ a o, H' a = some o → upd H' T (.tup [.int (i : Nat), x']) a = some o := upd_grow nT
    refine ⟨g, .tup upd_same (fun z => by obtain ⟨o, e⟩ := hL T z; rw [nT] at e; cases e) ?_⟩
    have la2 : Later L' H' L' (upd H' T (.tup [.int (i : Nat), x'])) := fun a o h n => ⟨g a o h, n⟩
    rw [Nat.zero_add]
    exact .cons (.int _) (.cons ((ru.mono la).mono la2) .nil)
  · rw [enumD_length] at hi
    rw [r.length]
    exact hi
section
variable {X : Cx} {e : Expr} {pos p : Pos}
def iEnum2 (o : Opd) : SA := fun r => match preAll [o] r with
  | some ([y], r') => match o.postR y r' with
    | some (.list xs) => some (enumD 0 xs, r')
    | some (.tuple xs) => some (enumD 0 xs, r')
    | _ => none
  | _ => none
theorem okI_enum {o : Opd} {elts : List Expr} {kk : Nat} {tpos : Pos} (hg : Gl X "enumerate") (hm' : X.mg "enumerate" = none) (h : OkO X e o)
    (N : NoStar X e [] pos) (hs : starEach [e] X.env = [(false, eval e X.env)]) : OkI X (.Tuple elts kk tpos) (.Call (.Name "enumerate" p) [e] [] pos) (iEnum2 o) := by
  intro P sg H r R ds r' S hm hq
  have ha : OkAO X [e] [o] := okAO_cons h okAO_nil N.he
  unfold iEnum2 at hm
  split at hm
  · rename_i y r1 e1
    split at hm
    · rename_i xs e3
      cases hm
      refine UI.of (pi_enum hg hm' UA.pa hs) (ha P sg H r _ _ _ S e1 fun vs H1 E1 q1 => ?_)
      obtain ⟨v, vs', y', ys', rfl, ey, p1, rfl, _⟩ := q1
      cases ey
      cases p1.doneR E1.sim e3 with
      | lst h1 n1 r1 => exact ⟨_, _, rfl, SqL.of h1, hq _ H1 E1 (feeds_enum h1 n1 r1)⟩
    · rename_i xs e3
      cases hm
      refine UI.of (pi_enumT hg hm' UA.pa hs) (ha P sg H r _ _ _ S e1 fun vs H1 E1 q1 => ?_)
      obtain ⟨v, vs', y', ys', rfl, ey, p1, rfl, _⟩ := q1
      cases ey
      have q := p1.doneR E1.sim e3
      obtain ⟨a, us, rfl, h1, _⟩ := q.tuple
      exact ⟨_, _, rfl, h1, hq _ H1 E1 (feeds_enumT q)⟩
    · cases hm
  · cases hm
end
end DL

namespace DL
open PySem PySem.Spec L2

/-! ### repr -/
theorem strOk_all {z : Str} : PyData.strOk z = true ↔ ∀ c ∈ z.cps.toList, c < 1114112 := by
  unfold PyData.strOk
  rw [← Array.all_toList, List.all_eq_true]
  simp
theorem strOk_ofString (s : String) : PyData.strOk (Str.ofString s) = true := by
  rw [strOk_all]
  intro c hc
  have e : (Str.ofString s).cps.toList = s.toList.map Char.toNat := cpsOfBytes_string s
  rw [e] at hc
  obtain ⟨ch, _, rfl⟩ := List.mem_map.mp hc
  have h := ch.valid
  simp only [UInt32.isValidChar, Nat.isValidChar] at h
  show ch.val.toNat < 1114112
  omega
theorem char_lt (ch : Char) : ch.toNat < 1114112 := by
  have h := ch.valid
  simp only [UInt32.isValidChar, Nat.isValidChar] at h
  show ch.val.toNat < 1114112
  omega
theorem reprChar_ok {q c : Nat} (hc : c < 1114112) : ∀ x ∈ Builtin.Str.reprChar q c, x < 1114112 := by
  have hx : ∀ (k : Nat), ∀ x ∈ List.replicate k 48 ++ (Nat.toDigits 16 c).map Char.toNat, x < 1114112 := fun k x h => by
    rcases List.mem_append.mp h with h | h
    · rw [(List.mem_replicate.mp h).2]; decide
    · obtain ⟨ch, _, rfl⟩ := List.mem_map.mp h
      exact char_lt ch
  unfold Builtin.Str.reprChar
  dsimp only
  intro x h
  split at h
  · simp at h; omega
  · split at h
    · simp at h; omega
    · split at h
      · simp at h; omega
      · split at h
        · simp at h; omega
        · split at h
          · simp at h; omega
          · split at h
            · rcases List.mem_append.mp h with h | h
              · simp at h; omega
              · exact hx _ x h
            · split at h
              · rcases List.mem_append.mp h with h | h
                · simp at h; omega
                · exact hx _ x h
              · rcases List.mem_append.mp h with h | h
                · simp at h; omega
                · exact hx _ x h
theorem foldl_repr_ok (q : Nat) : ∀ (l : List Nat) (acc : Array Nat), (∀ c ∈ l, c < 1114112) → (∀ c ∈ acc.toList, c < 1114112) → ∀ c ∈ (l.foldl (fun out c => out ++ (Builtin.Str.reprChar q c).toArray) acc).toList, c < 1114112
  | [], acc, _, h => h
  | d :: r, acc, hl, h => foldl_repr_ok q r _ (fun c hc => hl c (List.mem_cons_of_mem _ hc)) fun c hc => by
    rw [Array.toList_append] at hc
    rcases List.mem_append.mp hc with hc | hc
    · exact h c hc
    · exact reprChar_ok (hl d List.mem_cons_self) c (by simpa using hc)
theorem strOk_reprText {x : Str} (h : PyData.strOk x = true) : PyData.strOk (reprText x) = true := by
  rw [strOk_all] at h ⊢
  have hq : reprQuote x < 1114112 := by
    unfold reprQuote
    split <;> decide
  intro c hc
  unfold reprText at hc
  have hc : c ∈ ((x.cps.foldl (fun out c => out ++ (Builtin.Str.reprChar (reprQuote x) c).toArray) #[reprQuote x]).push (reprQuote x)).toList := hc
  rw [Array.toList_push, ← Array.foldl_toList] at hc
  rcases List.mem_append.mp hc with hc | hc
  · exact foldl_repr_ok _ _ _ h (by simpa using hq) c hc
  · rw [List.mem_singleton.mp hc]; exact hq
theorem strOk_textFrom : ∀ (ts : List Str) (k : Nat) (acc : Str), PyData.strOk acc = true → (∀ t ∈ ts, PyData.strOk t = true) → PyData.strOk (textFrom k acc ts) = true
  | [], k, acc, h, _ => h
  | t :: r, k, acc, h, hs => by
    unfold textFrom
    exact strOk_textFrom r (k + 1) _ (strOk_append (strOk_append h (by split <;> exact strOk_ofString _)) (hs t List.mem_cons_self)) fun u hu => hs u (List.mem_cons_of_mem _ hu)
theorem strOk_join {s : Str} (hs' : PyData.strOk s = true) : ∀ (ts : List Str), (∀ t ∈ ts, PyData.strOk t = true) → PyData.strOk (Str.join s ts) = true
  | [], _ => by unfold Str.join; decide +kernel
  | [x], h => h x List.mem_cons_self
  | x :: y :: r, h => strOk_append (strOk_append (h x List.mem_cons_self) hs') (strOk_join hs' (y :: r) fun u hu => h u (List.mem_cons_of_mem _ hu))
mutual
theorem strOk_shown : ∀ d : D, d.canLay0 = true → PyData.strOk d.shown = true
  | .none, _ => strOk_ofString "None"
  | .bool b, _ => by
    unfold PyData.shown
    cases b
    · exact strOk_ofString "False"
    · exact strOk_ofString "True"
  | .int i, _ => strOk_ofString _
  | .str x, h => strOk_reprText h
  | .list xs, h => by
    unfold PyData.shown
    exact strOk_append (strOk_textFrom _ _ _ (strOk_ofString "[") (strOk_shownAll xs h)) (strOk_ofString "]")
  | .tuple xs, h => by
    unfold PyData.shown
    exact strOk_append (strOk_append (strOk_ofString "(") (strOk_join (strOk_ofString ", ") _ (strOk_shownAll xs h))) (by split <;> exact strOk_ofString _)
  | .dict _, h => by cases h
theorem strOk_shownAll : ∀ ds : List D, PyData.canLayAll0 ds = true → ∀ t ∈ PyData.shownAll ds, PyData.strOk t = true
  | [], _, t, ht => by cases ht
  | d :: ds, h, t, ht => by
    have h' : d.canLay0 = true ∧ PyData.canLayAll0 ds = true := by
      have : (d.canLay0 && PyData.canLayAll0 ds) = true := h
      simpa using this
    unfold PyData.shownAll at ht
    rcases List.mem_cons.mp ht with e | e
    · rw [e]; exact strOk_shown d h'.1
    · exact strOk_shownAll ds h'.2 t e
end
mutual
def wt : D → Nat
  | .none => 4
  | .bool _ => 5
  | .int i => i.natAbs.log2 + 3
  | .str x => 10 * x.length + 2
  | .list xs => wtAll xs + 3
  | .tuple xs => wtAll xs + 3
  | .dict _ => 0
def wtAll : List D → Nat
  | [] => 0
  | x :: xs => wt x + 2 + wtAll xs
end
theorem len_append (x y : Str) : (x ++ y).length = x.length + y.length := by
  show (x.cps ++ y.cps).size = x.cps.size + y.cps.size
  exact Array.size_append
theorem textFrom_le : ∀ (ts : List Str) (k : Nat) (acc : Str), (textFrom k acc ts).length ≤ acc.length + (ts.map fun t => t.length + 2).sum
  | [], k, acc => by unfold textFrom; simp
  | t :: r, k, acc => by
    unfold textFrom
    have ih := textFrom_le r (k + 1) (acc ++ Str.ofString (if k > 0 then ", " else "") ++ t)
    rw [len_append, len_append] at ih
    have h2 : (Str.ofString (if k > 0 then ", " else "")).length ≤ 2 := by split <;> decide
    simp only [List.map_cons, List.sum_cons]
    omega
theorem join_le : ∀ (ts : List Str), (Str.join (Str.ofString ", ") ts).length ≤ (ts.map fun t => t.length + 2).sum
  | [] => by unfold Str.join; simp; rfl
  | [x] => by unfold Str.join; simp
  | x :: y :: r => by
    unfold Str.join
    have ih := join_le (y :: r)
    rw [len_append, len_append]
    have h2 : (Str.ofString ", ").length = 2 := by decide
    simp only [List.map_cons, List.sum_cons] at ih ⊢
    omega
theorem int_len (i : Int) : (Str.ofString (toString i)).length ≤ i.natAbs.log2 + 3 := by
  have e : (Str.ofString (toString i)).length = (toString i).length := by
    have h : (Str.ofString (toString i)).cps.toList = (toString i).toList.map Char.toNat := cpsOfBytes_string _
    show (Str.ofString (toString i)).cps.size = _
    rw [← Array.length_toList, h, List.length_map]
    exact String.length_toList
  rw [e]
  have h2 : (Nat.repr i.natAbs).length ≤ i.natAbs.log2 + 1 := nat_repr_length_le (by omega) (by exact Nat.lt_log2_self)
  cases i with
  | ofNat n => 
    have : (toString (Int.ofNat n)).length = (Nat.repr n).length := rfl
    rw [this]
    exact Nat.le_trans h2 (by omega)
  | negSucc n =>
    have e2 : toString (Int.negSucc n) = "-" ++ Nat.repr (n + 1) := rfl
    rw [e2, String.length_append]
    have : ("-" : String).length = 1 := rfl
    have h3 : (Nat.repr (n + 1)).length ≤ (Int.negSucc n).natAbs.log2 + 1 := h2
    omega
mutual
theorem shown_le : ∀ d : D, d.canLay0 = true → d.shown.length ≤ wt d
  | .none, _ => by decide
  | .bool b, _ => by cases b <;> decide
  | .int i, _ => int_len i
  | .str x, h => StrLaws.reprText_len x fun c hc => Nat.lt_trans (strOk_all.mp h c hc) (by decide)
  | .list xs, h => by
    unfold PyData.shown wt listText
    have h1 := textFrom_le (PyData.shownAll xs) 0 (Str.ofString "[")
    have h2 := shownAll_le xs h
    have h3 : (Str.ofString "[").length = 1 := by decide
    have h4 : (Str.ofString "]").length = 1 := by decide
    rw [len_append]
    omega
  | .tuple xs, h => by
    unfold PyData.shown wt tupleText
    have h1 := join_le (PyData.shownAll xs)
    have h2 := shownAll_le xs h
    have h3 : (Str.ofString "(").length = 1 := by decide
    have h4 : (Str.ofString (if (PyData.shownAll xs).length == 1 then ",)" else ")")).length ≤ 2 := by split <;> decide
    rw [len_append, len_append]
    omega
  | .dict _, h => by cases h
theorem shownAll_le : ∀ ds : List D, PyData.canLayAll0 ds = true → ((PyData.shownAll ds).map fun t => t.length + 2).sum ≤ wtAll ds
  | [], _ => by simp [PyData.shownAll, wtAll]
  | d :: ds, h => by
    have h' : d.canLay0 = true ∧ PyData.canLayAll0 ds = true := by
      have : (d.canLay0 && PyData.canLayAll0 ds) = true := h
      simpa using this
    have h1 := shown_le d h'.1
    have h2 := shownAll_le ds h'.2
    unfold PyData.shownAll wtAll
    simp only [List.map_cons, List.sum_cons]
    omega
end
def reprOk (d : D) : Bool := d.showable && decide (wt d ≤ 16000000) && flatD d
def fRepr : List D → Option D
  | [.list xs] => if reprOk (.list xs) then some (.str (PyData.shown (.list xs))) else none
  | [.tuple xs] => if reprOk (.tuple xs) then some (.str (PyData.shown (.tuple xs))) else none
  | [.none] => some (.str (PyData.shown .none))
  | [.bool b] => some (.str (PyData.shown (.bool b)))
  | [.int i] => if reprOk (.int i) then some (.str (PyData.shown (.int i))) else none
  | [.str x] => if reprOk (.str x) then some (.str (PyData.shown (.str x))) else none
  | _ => none
section
variable {X : Cx}
theorem reprOk_of {d : D} (h : reprOk d = true) (hl : d.canLay0 = true) : d.showable = true ∧ d.shown.length ≤ sizeLine ∧ d.depth ≤ 60 := by
  unfold reprOk flatD at h
  simp only [Bool.and_eq_true, decide_eq_true_eq] at h
  refine ⟨h.1.1, Nat.le_trans (shown_le d hl) ?_, h.2⟩
  rw [sizeLine_eq]
  omega
theorem repr_ref {P : Addr → Prop} {sg : St} {H : Hp} {r : DL.Env} {v : V} {d : D} {Q : VK} {a : Addr} (hu : X.A.units + 64 < cLine) (hg : X.A.guards = some []) (S : Sim X.K P sg H r) (hb : Bor true X.K (Lv P sg r) H v d) (ev : v = .ref a) (h : reprOk d = true)
    (hq : ∀ w H', Ext X.K P sg r H r H' → Rep X.K (Lv P sg r) H' w (.str d.shown) → Q w H') : caB X (.builtin "repr") [v] H Q := by
  subst ev
  obtain ⟨h1, h2, h3⟩ := reprOk_of h hb.lay
  refine ⟨fun vs H' Q' => vs = [.ref a] ∧ H' = H ∧ Q' = Q, ?_, rfl, rfl, rfl⟩
  rintro pins s sg' H' vs us Q' I rv ⟨rfl, rfl, rfl⟩
  obtain ⟨u, rfl, ru⟩ := vals1 rv
  cases ru
  obtain ⟨as, rd⟩ := Dp.reads I d _ _ hb.dp rfl
  refine repr_of_reads' rd h1 (PyData.noDict_hsm (PyData.hasDict_of_canLay d hb.lay)) hg (by omega) (fun _ _ q => q) (fun h' u tk hk => ?_) h2
  exact ⟨.str d.shown, H', I.kept hk, ⟨u, rfl⟩, hq _ _ (Ext.refl S) (.str _ (strOk_shown d hb.lay))⟩
theorem callS_repr (hu : X.A.units + 64 < cLine) (hg : X.A.guards = some []) : CallS true X (.builtin "repr") fRepr := by
  intro P sg H r vs ds z Q S hb hz hq
  have scal : ∀ {v : V} {d : D}, Bor true X.K (Lv P sg r) H v d → (∀ pins s sg' H' u, Inv X pins sg' H' s → RelV v u → d.shown.length ≤ sizeLine → ∀ (Q0 : Value → Shared → Prop), Q0 (.str d.shown s.toks) { s with toks := s.toks + 1 } → wpAny (model X.prog X.w) X.A (call (.builtin "repr") [u]) Q0 X.xe s) →
      d.shown.length ≤ sizeLine → (∀ w H', Ext X.K P sg r H r H' → Rep X.K (Lv P sg r) H' w (.str d.shown) → Q w H') → caB X (.builtin "repr") [v] H Q := fun {v d} hb hrun hl hq => by
    refine ⟨fun vs H' Q' => vs = [v] ∧ H' = H ∧ Q' = Q, ?_, rfl, rfl, rfl⟩
    rintro pins s sg' H' vs us Q' I rv ⟨rfl, rfl, rfl⟩
    obtain ⟨u, rfl, ru⟩ := vals1 rv
    exact hrun pins s sg' _ u I ru hl _ ⟨.str d.shown, _, I.tok _, ⟨_, rfl⟩, hq _ _ (Ext.refl S) (.str _ (strOk_shown d hb.lay))⟩
  unfold fRepr at hz
  split at hz
  · split at hz
    · rename_i h
      cases hz
      obtain ⟨v, rfl, hb1⟩ := hb.one
      obtain ⟨a, us, ev, _⟩ := hb1.list
      exact repr_ref hu hg S hb1 ev h hq
    · cases hz
  · split at hz
    · rename_i h
      cases hz
      obtain ⟨v, rfl, hb1⟩ := hb.one
      obtain ⟨a, us, ev, _⟩ := hb1.tuple
      exact repr_ref hu hg S hb1 ev h hq
    · cases hz
  · cases hz
    obtain ⟨v, rfl, hb1⟩ := hb.one
    refine scal hb1 (fun pins s sg' H' u I ru hl Q0 q => ?_) (by decide) hq
    cases hb1.none
    cases ru
    exact PySem.P.repr_of_none q
  · rename_i b
    cases hz
    obtain ⟨v, rfl, hb1⟩ := hb.one
    refine scal hb1 (fun pins s sg' H' u I ru hl Q0 q => ?_) (by cases b <;> decide) hq
    cases hb1.bool
    cases ru
    refine PySem.P.repr_of_bool ?_
    cases b <;> exact q
  · split at hz
    · rename_i h
      cases hz
      obtain ⟨v, rfl, hb1⟩ := hb.one
      obtain ⟨h1, h2, _⟩ := reprOk_of h hb1.lay
      refine scal hb1 (fun pins s sg' H' u I ru hl Q0 q => ?_) h2 hq
      cases hb1.int
      obtain ⟨t, rfl⟩ := ru
      exact PySem.P.repr_of_int (of_decide_eq_true h1) q
    · cases hz
  · split at hz
    · rename_i h
      cases hz
      obtain ⟨v, rfl, hb1⟩ := hb.one
      obtain ⟨h1, h2, _⟩ := reprOk_of h hb1.lay
      refine scal hb1 (fun pins s sg' H' u I ru hl Q0 q => ?_) h2 hq
      cases hb1.str.1
      obtain ⟨t, rfl⟩ := ru
      exact PySem.P.repr_of_str q hl
    · cases hz
  · cases hz
end
end DL

namespace DL
open PySem PySem.Spec L2
section
variable {X : Cx} {e : Expr} {pos apos cpos px : Pos} {x : Str} {i : Nat}
/-! ### xs.append(e) -/
def mAppend (i : Nat) (m : SE) : SE := fun r => if notOwn r i then none else match m r with
  | some (y, r1) => match r1[i]? with
    | some (some (.own xs)) => if xs.length < sizeLine then some (.none, r1.set i (some (.own (xs ++ [y])))) else none
    | _ => none
  | none => none
theorem okE_append {m : SE} (hN : X.N[i]? = some x) (hv : Vis X.env.scope x) (hd : (x == ("__debug__" : Str)) = false) (hcd : (x == ("__classdict__" : Str)) = false) (h : OkE X e m) (hs : starEach [e] X.env = (false, eval e X.env) :: starEach [] X.env) (hline : (apos.endLine == cpos.line) = true) :
    OkE X (.Call (.Attribute (.Name x px) "append" apos) [e] [] cpos) (mAppend i m) := by
  intro P sg H r Q d r' S hm hq
  unfold mAppend at hm
  split at hm
  · cases hm
  rename_i h0
  have e0 : ∃ zs, r[i]? = some (some (Sl.own zs)) := Classical.byContradiction fun z => h0 (notOwn_iff z)
  obtain ⟨zs, e0⟩ := e0
  split at hm
  · rename_i y r1 e1
    split at hm
    · rename_i xs e2
      split at hm
      · rename_i hl
        cases hm
        obtain ⟨p, us, p1, p2, p3⟩ := S.own i zs e0
        refine UE.of (pe_bm PySem.F.plainAttrs_list PySem.F.slot_list_append PySem.F.type_list_append mt_append (pe_var hN hv hd hcd) (pa_cons UE.pe pa_nil hs) rfl (by rw [hs]; rfl) hline hs rfl) ?_
        refine ⟨_, p1, .inl ⟨rfl, us, SqL.of p2⟩, h P sg H r _ y r1 S e1 fun v H1 E1 q1 => ?_⟩
        obtain ⟨p', us', p1', p2', p3'⟩ := E1.sim.own i xs e2
        rw [p1] at p1'; cases p1'
        exact ⟨p, us', v, rfl, rfl, p2', by rw [p3'.length]; exact hl, hq _ _ (E1.trans (E1.sim.updOwn e2 p1 (p3'.append (.cons q1 .nil)))) .non⟩
      · cases hm
    · cases hm
  · cases hm
/-! ### xs.index(e) -/
def idxD (y : D) : List D → Option Nat
  | [] => none
  | z :: zs => if PyData.eqv z y then some 0 else match idxD y zs with | some k => some (k + 1) | none => none
theorem idxD_ok {y : D} : ∀ {zs : List D} {j : Nat}, idxD y zs = some j → (∃ z, zs[j]? = some z ∧ PyData.eqv z y = true) ∧ ∀ (m : Nat) (z' : D), m < j → zs[m]? = some z' → PyData.eqv z' y = false
  | [], j, h => by cases h
  | z :: zs, j, h => by
    unfold idxD at h
    split at h
    · rename_i hz
      cases h
      exact ⟨⟨z, rfl, hz⟩, fun m z' hm _ => absurd hm (Nat.not_lt_zero _)⟩
    · rename_i hz
      split at h
      · rename_i k hk
        cases h
        obtain ⟨⟨w, h1, h2⟩, h3⟩ := idxD_ok hk
        refine ⟨⟨w, by simpa using h1, h2⟩, fun m z' hm hz' => ?_⟩
        cases m with
        | zero => simp at hz'; subst hz'; simpa using hz
        | succ m => exact h3 m z' (by omega) (by simpa using hz')
      · cases h
def mIndex (ma mb : SE) : SE := fun r => match ma r with
  | some (.list ds, r1) => match mb r1 with
    | some (y, r2) => if flatD (.list ds) && flatD y then match idxD y ds with | some j => some (.int j, r2) | none => none else none
    | none => none
  | _ => none
theorem okE_index {o : Expr} {ma mb : SE} (hu : X.A.units + 65 < cLine) (ha : OkE X o ma) (hb : OkE X e mb) (hbase : attributeBase o "index" X.env (eval o X.env) = eval o X.env) (hs : starEach [e] X.env = (false, eval e X.env) :: starEach [] X.env) (hline : (apos.endLine == cpos.line) = true) :
    OkE X (.Call (.Attribute o "index" apos) [e] [] cpos) (mIndex ma mb) := by
  intro P sg H r Q d r' S hm hq
  unfold mIndex at hm
  split at hm
  · rename_i ds r1 e1
    split at hm
    · rename_i y r2 e2
      split at hm
      · rename_i hf
        split at hm
        · rename_i j hj
          cases hm
          simp only [Bool.and_eq_true, flatD, decide_eq_true_eq] at hf
          refine UE.of (pe_bm PySem.F.plainAttrs_list PySem.F.slot_list_index PySem.F.type_list_index (mt_indexD hu) UE.pe (pa_cons UE.pe pa_nil hs) hbase (by rw [hs]; rfl) hline hs rfl) ?_
          refine ha P sg H r _ _ _ S e1 fun v H1 E1 q1 => ?_
          obtain ⟨a, us, rfl, h1, _⟩ := (Bor.rep (s := true) q1).list
          refine ⟨.inl ⟨rfl, us, h1⟩, hb P sg H1 r1 _ _ _ E1.sim e2 fun u H2 E2 q2 => ?_⟩
          have q1' := E2.rep q1
          obtain ⟨⟨z, z1, z2⟩, z3⟩ := idxD_ok hj
          have sh : ∀ {d : D}, d.canLay0 = true → d.depth ≤ 60 → SeqAt.shaped d = true := fun {d} h h' => by
            unfold SeqAt.shaped
            rw [h, decide_eq_true (by omega : d.depth ≤ 64)]
            rfl
          exact ⟨a, u, y, ds, j, z, rfl, rfl, q1'.dp, q2.dp, sh q1'.lay hf.1, sh q2.lay hf.2, z1, z2, z3, hq _ H2 (E1.trans E2) (.int _)⟩
        · cases hm
      · cases hm
    · cases hm
  · cases hm
end
/-! ### a, b = x, y -/
inductive Av where
  | d (m : SE) | n (m : SA)
def avs : List Av → DL.Env → Option (List Sl × DL.Env)
  | [], r => some ([], r)
  | .d m :: as, r => match m r with
    | some (x, r1) => match avs as r1 with | some (sl, r2) => some (.d x :: sl, r2) | none => none
    | none => none
  | .n m :: as, r => match m r with
    | some (x, r1) => match avs as r1 with | some (sl, r2) => some (.own x :: sl, r2) | none => none
    | none => none
inductive AvR (K : PySem.W.Frag) (L : Addr → Prop) (H : Hp) : List V → List Sl → List Addr → Prop
  | nil : AvR K L H [] [] []
  | d {v : V} {x : D} {vs : List V} {sl : List Sl} {N : List Addr} : Rep K L H v x → AvR K L H vs sl N → AvR K L H (v :: vs) (.d x :: sl) N
  | n {p : Addr} {us vs : List V} {xs : List D} {sl : List Sl} {N : List Addr} : H p = some (.lst us) → RepL K L H us xs → AvR K L H vs sl N → AvR K L H (.ref p :: vs) (.own xs :: sl) (p :: N)
abbrev Also (P : Addr → Prop) (N : List Addr) : Addr → Prop := fun a => P a ∨ a ∈ N
theorem AvR.mono {K : PySem.W.Frag} {L L' : Addr → Prop} {H : Hp} (m : Later L H L' H) : ∀ {vs : List V} {sl : List Sl} {N : List Addr}, AvR K L H vs sl N → AvR K L' H vs sl N
  | _, _, _, .nil => .nil
  | _, _, _, .d r t => .d (r.mono m) (AvR.mono m t)
  | _, _, _, .n h r t => .n h (r.mono m) (AvR.mono m t)
structure AvP (K : PySem.W.Frag) (P : Addr → Prop) (sg : St) (r : DL.Env) (H : Hp) (r' : DL.Env) (H' : Hp) (vs : List V) (sl : List Sl) (N : List Addr) : Prop where
  ext : Ext K P sg r H r' H'
  sim : Sim K (Also P N) sg H' r'
  new : ∀ p ∈ N, H p = none
  nd : N.Nodup
  val : AvR K (Lv (Also P N) sg r') H' vs sl N
def OkAv (X : Cx) (es : List Expr) (as : List Av) : Prop := ∀ (P : Addr → Prop) (sg : St) (H : Hp) (r : DL.Env) (Q : List V → Hp → Prop) (sl : List Sl) (r' : DL.Env), Sim X.K P sg H r → avs as r = some (sl, r') →
  (∀ vs N H', AvP X.K P sg r H r' H' vs sl N → Q vs H') → UA X es sg H Q
section
variable {X : Cx} {e : Expr} {es : List Expr}
theorem okAv_nil : OkAv X [] [] := by
  intro P sg H r Q sl r' S hm hq
  cases hm
  exact UA.of pa_nil (hq [] [] H ⟨Ext.refl S, S.less fun a h => h.elim id (fun z => nomatch z), (fun _ h => nomatch h), List.nodup_nil, .nil⟩)
theorem Ext.less {K : PySem.W.Frag} {P P' : Addr → Prop} {sg : St} {r r' : DL.Env} {H H' : Hp} (E : Ext K P sg r H r' H') (h : ∀ a, P' a → P a) : Ext K P' sg r H r' H' := ⟨E.sim.less h, E.shape, E.keep⟩
theorem AvP.later {K : PySem.W.Frag} {P : Addr → Prop} {sg : St} {r r' : DL.Env} {H H' : Hp} {vs : List V} {sl : List Sl} {N : List Addr} (A : AvP K P sg r H r' H' vs sl N) : Later (Lv P sg r) H (Lv (Also P N) sg r') H' := fun a o h n =>
  ⟨A.ext.keep a o h fun z => n (.inr z), fun z => z.elim (fun z => z.elim (fun z => n (.inl z)) fun z => by rw [A.new a z] at h; cases h) fun z => n (.inr ((A.ext.own a).mp z))⟩
theorem okAv_d {m : SE} {as : List Av} (h : OkE X e m) (hn : OkAv X es as) (hs : starEach (e :: es) X.env = (false, eval e X.env) :: starEach es X.env) : OkAv X (e :: es) (.d m :: as) := by
  intro P sg H r Q sl r' S hm hq
  unfold avs at hm
  split at hm
  · rename_i x r1 e1
    split at hm
    · rename_i sl1 r2 e2
      cases hm
      refine UA.of (pa_cons UE.pe UA.pa hs) (h P sg H r _ x r1 S e1 fun v H1 E1 q1 => hn P sg H1 r1 _ sl1 _ E1.sim e2 fun vs N H2 A => ?_)
      exact hq (v :: vs) N H2 ⟨E1.trans A.ext, A.sim, fun p hp => E1.none (A.new p hp), A.nd, .d (q1.mono A.later) A.val⟩
    · cases hm
  · cases hm
theorem okAv_n {m : SA} {as : List Av} (h : OkN X e m) (hn : OkAv X es as) (hs : starEach (e :: es) X.env = (false, eval e X.env) :: starEach es X.env) : OkAv X (e :: es) (.n m :: as) := by
  intro P sg H r Q sl r' S hm hq
  unfold avs at hm
  split at hm
  · rename_i x r1 e1
    split at hm
    · rename_i sl1 r2 e2
      cases hm
      refine UA.of (pa_cons UE.pe UA.pa hs) (h P sg H r _ x r1 S e1 fun p us H1 n => hn (With P p) sg H1 r1 _ sl1 _ n.sim e2 fun vs N H2 A => ?_)
      have now : ¬ OwnA sg r1 p := fun z => n.sim.nP p z (.inr rfl)
      have la := A.later
      have cg : ∀ a, Also P (p :: N) a → Also (With P p) N a := fun a h => by
        rcases h with h | h
        · exact .inl (.inl h)
        · rcases List.mem_cons.mp h with h | h
          · exact .inl (.inr h)
          · exact .inr h
      have lc : Later (Lv (Also (With P p) N) sg r') H2 (Lv (Also P (p :: N)) sg r') H2 := fun a o h k => ⟨h, fun z => k (z.elim (fun z => .inl (cg a z)) .inr)⟩
      refine hq (.ref p :: vs) (p :: N) H2 ⟨n.ext.trans (A.ext.less fun a h => .inl h), A.sim.less cg, fun q hq' => ?_, List.nodup_cons.mpr ⟨fun z => ?_, A.nd⟩, .n (A.ext.keep p _ n.here now) ((n.rep.mono la).mono lc) (A.val.mono lc)⟩
      · rcases List.mem_cons.mp hq' with z | z
        · rw [z]; exact n.new
        · exact n.ext.none (A.new q z)
      · have := A.new p z
        rw [n.here] at this; cases this
    · cases hm
  · cases hm
def setsS : List Nat → List V → St → St
  | i :: is, v :: vs, s => setsS is vs (s.set i (some v))
  | _, _, s => s
def setsE : List Nat → List Sl → DL.Env → DL.Env
  | i :: is, v :: vs, s => setsE is vs (s.set i (some v))
  | _, _, s => s
theorem setsS_out : ∀ {is : List Nat} {vs : List V} {s : St} {j : Nat}, j ∉ is → (setsS is vs s)[j]? = s[j]?
  | [], _, s, j, _ => by cases ‹List V› <;> rfl
  | i :: is, [], s, j, _ => rfl
  | i :: is, v :: vs, s, j, h => by
    unfold setsS
    rw [setsS_out fun z => h (List.mem_cons_of_mem _ z), List.getElem?_set_ne fun z => h (by rw [z]; exact List.mem_cons_self)]
theorem sets_sim {K : PySem.W.Frag} {P : Addr → Prop} {H : Hp} {L : Addr → Prop} {vs : List V} {sl : List Sl} {N : List Addr} (A : AvR K L H vs sl N) : ∀ {L' : Addr → Prop} {is : List Nat} {sg : St} {r : DL.Env}, Sim K (Also P N) sg H r → L' = Lv (Also P N) sg r → Later L H L' H → is.length = sl.length → (∀ i ∈ is, i < r.length) → N.Nodup → (∀ p ∈ N, ¬ P p) →
    Sim K P (setsS is vs sg) H (setsE is sl r) ∧ ∀ a, OwnA (setsS is vs sg) (setsE is sl r) a → OwnA sg r a ∨ a ∈ N := by
  induction A with
  | nil =>
    intro L' is sg r S hL' hLL hl hi nd np
    cases is with
    | nil => exact ⟨S.less fun a h => .inl h, fun a h => .inl h⟩
    | cons i is => cases hl
  | @d v x vs sl N q t ih =>
    intro L' is sg r S hL' hLL hl hi nd np
    subst hL'
    cases is with
    | nil => cases hl
    | cons i is =>
      obtain ⟨S1, o1⟩ := S.setD (hi i List.mem_cons_self) (q.mono hLL)
      have la : Later (Lv (Also P N) sg r) H (Lv (Also P N) (sg.set i (some v)) (r.set i (some (.d x)))) H := fun a o h n => ⟨h, fun z => n (z.elim .inl fun z => .inr (o1 a z))⟩
      obtain ⟨S2, o2⟩ := ih (is := is) S1 rfl (hLL.trans la) (by simpa using hl) (fun j hj => by rw [List.length_set]; exact hi j (List.mem_cons_of_mem _ hj)) nd np
      exact ⟨S2, fun a h => (o2 a h).elim (fun z => .inl (o1 a z)) .inr⟩
  | @n p us vs xs sl N h q t ih =>
    intro L' is sg r S hL' hLL hl hi nd np
    subst hL'
    cases is with
    | nil => cases hl
    | cons i is =>
      have nd' := List.nodup_cons.mp nd
      have cg : ∀ a, With (Also P N) p a → Also P (p :: N) a := fun a h => by
        rcases h with (h | h) | h
        · exact .inl h
        · exact .inr (List.mem_cons_of_mem _ h)
        · exact .inr (by rw [h]; exact List.mem_cons_self)
      have cg' : ∀ a, Also P (p :: N) a → With (Also P N) p a := fun a h => by
        rcases h with h | h
        · exact .inl (.inl h)
        · rcases List.mem_cons.mp h with h | h
          · exact .inr h
          · exact .inl (.inr h)
      have lc : Later (Lv (Also P (p :: N)) sg r) H (Lv (With (Also P N) p) sg r) H := fun a o h k => ⟨h, fun z => k (z.elim (fun z => .inl (cg a z)) .inr)⟩
      obtain ⟨S1, o1⟩ := (S.less cg).setOwn (hi i List.mem_cons_self) (fun z => z.elim (np p List.mem_cons_self) nd'.1) h ((q.mono hLL).mono lc)
      have la : Later (Lv (Also P (p :: N)) sg r) H (Lv (Also P N) (sg.set i (some (.ref p))) (r.set i (some (.own xs)))) H := fun a o h n => ⟨h, fun z => n (by
        rcases z with z | z
        · exact .inl (cg a (.inl z))
        · rcases o1 a z with z | z
          · exact .inr z
          · exact .inl (cg a (.inr z)))⟩
      obtain ⟨S2, o2⟩ := ih (is := is) S1 rfl (hLL.trans la) (by simpa using hl) (fun j hj => by rw [List.length_set]; exact hi j (List.mem_cons_of_mem _ hj)) nd'.2 (fun q hq => np q (List.mem_cons_of_mem _ hq))
      refine ⟨S2, fun a h => ?_⟩
      rcases o2 a h with z | z
      · rcases o1 a z with z | z
        · exact .inl z
        · exact .inr (by rw [z]; exact List.mem_cons_self)
      · exact .inr (List.mem_cons_of_mem _ z)
def sPar (is : List Nat) (as : List Av) : SS := fun r => match avs as r with
  | some (sl, r1) => if decide (is.length = sl.length) && is.all (fun i => decide (i < r1.length)) then some (.nx, setsE is sl r1) else none
  | none => none
theorem okS_par {io is : List Nat} {st : Stmt} {as : List Av} (h : OkAv X es as) (hio : ∀ i ∈ io, i ∉ is) (hT : ∀ (E : Ends) (sg : St) (H : Hp), (UA X es sg H fun vs H1 => vs.length = is.length ∧ E.nx (setsS is vs sg) H1) → US X st E sg H) : OkS X io st (sPar is as) := by
  intro P sg H r E f r' S hm hp
  unfold sPar at hm
  split at hm
  · rename_i sl r1 e1
    split at hm
    · rename_i hc
      cases hm
      simp only [Bool.and_eq_true, decide_eq_true_eq, List.all_eq_true] at hc
      refine hT E sg H (h P sg H r _ sl r1 S e1 fun vs N H1 A => ⟨?_, ?_⟩)
      · have len : ∀ {vs : List V} {sl : List Sl} {N : List Addr}, AvR X.K (Lv (Also P N) sg r1) H1 vs sl N → vs.length = sl.length := by
          intro vs sl N h
          generalize Lv (Also P N) sg r1 = L at h
          induction h with
          | nil => rfl
          | d _ _ ih => simp [ih]
          | n _ _ _ ih => simp [ih]
        rw [len A.val, hc.1]
      · obtain ⟨S2, o2⟩ := sets_sim A.val A.sim rfl (fun a o h n => ⟨h, n⟩) hc.1 hc.2 A.nd (fun p hp' z => by obtain ⟨o, e⟩ := S.prot p z; rw [A.new p hp'] at e; cases e)
        refine hp _ H1 ⟨S2, fun a o h n => ⟨A.ext.keep a o h n, fun z => ?_⟩, fun i hi => setsS_out (hio i hi), fun a h => A.ext.none h⟩
        rcases o2 a z with z | z
        · exact n ((A.ext.own a).mp z)
        · rw [A.new a z] at h; cases h
    · cases hm
  · cases hm
theorem par2 {i j : Nat} {x y : Str} {a b : Expr} {p1 p2 pt pos : Pos} {kt k2 : Nat} {pt2 : Pos} (hc : X.calm = true) (hN : X.N.Nodup) (hi : X.N[i]? = some x) (hj : X.N[j]? = some y) (hij : i ≠ j) (hx : X.env.scope.names.lookup x = some .local) (hy : X.env.scope.names.lookup y = some .local)
    (hw : swappedStores [.Tuple [.Name x p1, .Name y p2] kt pt] (.Tuple [a, b] k2 pt2) X.env = pure (some [x, y])) (hs : swapsWithSole [.Tuple [.Name x p1, .Name y p2] kt pt] (.Tuple [a, b] k2 pt2) pos.line X.env = pure false) :
    ∀ (E : Ends) (sg : St) (H : Hp), (UA X [a, b] sg H fun vs H1 => vs.length = [i, j].length ∧ E.nx (setsS [i, j] vs sg) H1) → US X (.Assign [.Tuple [.Name x p1, .Name y p2] kt pt] (.Tuple [a, b] k2 pt2) pos) E sg H := fun E sg H h => by
  refine US.of (ps_par hc hN hi hj hij hx hy (PA.mk (fun ps pins s sg' H' Q' I (h : UA X [a, b] sg' H' Q') => h ps pins s I)) hw hs) ?_
  intro ps pins s I
  refine wpAny_mono (h ps pins s I) (fun us s1 q => ?_) fun _ _ z => z
  obtain ⟨vs, H1, I1, r1, hl, q⟩ := q
  refine ⟨vs, H1, I1, r1, ?_⟩
  match vs, hl, q with
  | [v, w], _, q => exact ⟨v, w, rfl, q⟩
theorem par3 {i j l : Nat} {x y z : Str} {a b c : Expr} {p1 p2 p3 pt pos : Pos} {kt k2 : Nat} {pt2 : Pos} (hc : X.calm = true) (hN : X.N.Nodup) (hi : X.N[i]? = some x) (hj : X.N[j]? = some y) (hl : X.N[l]? = some z) (hij : i ≠ j) (hil : i ≠ l) (hjl : j ≠ l)
    (hx : X.env.scope.names.lookup x = some .local) (hy : X.env.scope.names.lookup y = some .local) (hz : X.env.scope.names.lookup z = some .local)
    (hw : swappedStores [.Tuple [.Name x p1, .Name y p2, .Name z p3] kt pt] (.Tuple [a, b, c] k2 pt2) X.env = pure (some [x, y, z])) (hs : swapsWithSole [.Tuple [.Name x p1, .Name y p2, .Name z p3] kt pt] (.Tuple [a, b, c] k2 pt2) pos.line X.env = pure false) :
    ∀ (E : Ends) (sg : St) (H : Hp), (UA X [a, b, c] sg H fun vs H1 => vs.length = [i, j, l].length ∧ E.nx (setsS [i, j, l] vs sg) H1) → US X (.Assign [.Tuple [.Name x p1, .Name y p2, .Name z p3] kt pt] (.Tuple [a, b, c] k2 pt2) pos) E sg H := fun E sg H h => by
  refine US.of (ps_par3 hc hN hi hj hl hij hil hjl hx hy hz (PA.mk (fun ps pins s sg' H' Q' I (h : UA X [a, b, c] sg' H' Q') => h ps pins s I)) hw hs) ?_
  intro ps pins s I
  refine wpAny_mono (h ps pins s I) (fun us s1 q => ?_) fun _ _ z => z
  obtain ⟨vs, H1, I1, r1, hl, q⟩ := q
  refine ⟨vs, H1, I1, r1, ?_⟩
  match vs, hl, q with
  | [u, v, w], _, q => exact ⟨u, v, w, rfl, q⟩
/-! ### f(k = e), one parameter -/
theorem okE_fnk {k : Nat} {f : Addr} {fd : FuncData} {x q : Str} {F : FSem} {p pos kpos : Pos} {o : Opd} (A : DefAt X x f fd [q]) (hbk : ∀ (s : Shared) (u : Value), X.K.In s.heap → BindsTo s fd ⟨[], [(q, u)]⟩ [(q, u)]) (G : FnG X.prog X.w X.K X.mg X.base k f fd [q] F) (hr : RoomG k X.A) (ho : OkO X e o) :
    OkE X (.Call (.Name x p) [] [⟨some q, e, kpos⟩] pos) (mFn F [o]) := by
  intro P sg H r Q d r' S hm hq
  unfold mFn at hm
  split at hm
  · rename_i xs r1 e1
    split at hm
    · rename_i as e2
      split at hm
      · rename_i nd
        split at hm
        · rename_i d0 as' e3
          cases hm
          intro pins s I
          refine wpAny_Call_Name_kw (ld_glob I A.g A.m ?_ A.db)
          unfold preAll at e1
          split at e1
          · rename_i h0
            split at e1
            · rename_i y r2 e4
              have e5 : xs = [y] ∧ r1 = r2 := by
                simp only [preAll] at e1
                cases e1
                exact ⟨rfl, rfl⟩
              obtain ⟨rfl, rfl⟩ := e5
              refine PySem.W.callWith_KW0 (h₀ := X.base) (kws := [⟨some q, e, kpos⟩]) I.ok.mod.kin A.kp rfl ?_ rfl
              have hk : PK X [⟨some q, e, kpos⟩] (tCons (UE X e) tNil) := pk_cons UE.pe pk_nil
              refine thn (hk.run pos pins s sg H (fun vs H2 => ∀ pins s us, Inv X pins sg H2 s → Vals vs us → codeAny (model X.prog X.w) X.A (.call (.ref f) ⟨[], [q].zip us⟩) (CR CX0 X.stack X.prog X.w H2 s Q E0) s) I ?_) fun us s1 q0 => ?_
              · refine ho P sg H r _ _ _ S e4 (fun v H1 E1 q1 => fun pins s us I rv => ?_) (here_of h0)
                have qp : PendL X.K P sg [o] [v] [y] r1 H1 := ⟨v, [], y, [], rfl, rfl, q1, rfl, rfl⟩
                obtain ⟨u, rfl, ru⟩ := vals1 rv
                obtain ⟨CS, lv⟩ := callee_sim E1.sim qp e2 nd
                refine G.run X.A X.stack s H1 ⟨[], [(q, u)]⟩ [u] [v] _ as as' d Q hr I.env0 (hbk s u I.kIn) rv rfl CS e3 fun w H2 E2 q2 => ?_
                obtain ⟨E3, _, lv3⟩ := caller_ext (P' := P) E1.sim qp e2 nd E2 (N := fun _ => False) (E2.sim.less fun a h => h.elim id False.elim) (fun a h => h.elim)
                refine hq w H2 (E1.trans E3) (q2.mono fun a ob h n => ⟨h, fun z => n ?_⟩)
                rcases (lv3 a).mp (z.elim (fun z => .inl (.inl z)) .inr) with (z | z) | z
                · exact .inl z
                · exact z.elim
                · exact .inr z
              · obtain ⟨vs, H1, I1, rv, q1⟩ := q0
                exact ⟨I1.kIn, run_call I1 (q1 pins s1 us I1 rv)⟩
            · cases e1
          · cases e1
        · cases hm
      · cases hm
    · cases hm
  · cases hm
end
end DL

namespace DL
open PySem PySem.Spec L2
/-! ### the place of a text: names and scope -/
structure Sc (X : Cx) (N : List Str) (sc : Scope) : Prop where
  n : X.N = N
  s : X.env.scope = sc
def visB (sc : Scope) (x : Str) : Bool := match sc.names.lookup x with
  | some .local => true
  | some .cell => true
  | some .free => true
  | _ => false
def locB (sc : Scope) (x : Str) : Bool := match sc.names.lookup x with
  | some .local => true
  | _ => false
def gloB (sc : Scope) (x : Str) : Bool := match sc.names.lookup x with
  | some .globalImplicit => true
  | _ => false
def nmB (N : List Str) (sc : Scope) (i : Nat) (x : Str) : Bool := decide (N[i]? = some x) && visB sc x && !(x == ("__debug__" : Str)) && !(x == ("__classdict__" : Str))
theorem visB_ok {sc : Scope} {x : Str} (h : visB sc x = true) : Vis sc x := by
  unfold visB at h
  split at h
  · rename_i e; exact .inl e
  · rename_i e; exact .inr (.inl e)
  · rename_i e; exact .inr (.inr e)
  · cases h
theorem locB_ok {sc : Scope} {x : Str} (h : locB sc x = true) : sc.names.lookup x = some .local := by
  unfold locB at h
  split at h
  · assumption
  · cases h
theorem gloB_ok {sc : Scope} {x : Str} (h : gloB sc x = true) : sc.names.lookup x = some .globalImplicit := by
  unfold gloB at h
  split at h
  · assumption
  · cases h
section
variable {X : Cx} {N : List Str} {sc : Scope} {pos p : Pos} {x : Str} {i : Nat} {e : Expr} {es : List Expr}
theorem nmB_ok (h : nmB N sc i x = true) : N[i]? = some x ∧ Vis sc x ∧ (x == ("__debug__" : Str)) = false ∧ (x == ("__classdict__" : Str)) = false := by
  unfold nmB at h
  simp only [Bool.and_eq_true, decide_eq_true_eq, Bool.not_eq_true'] at h
  exact ⟨h.1.1.1, visB_ok h.1.1.2, h.1.2, h.2⟩
theorem Sc.blk (C : Sc X N sc) {scope : Scope} {s0 : Shared} {H0 : Hp} {C0 : Addr} {cl : List (Str × Addr)} {fp : List Addr} : Sc (Cx.inBlk X scope s0 H0 C0 cl fp) N (relS scope sc) := ⟨C.n, by rw [← C.s]; rfl⟩
theorem Sc.gl (C : Sc X N sc) (h : gloB sc x = true) : Gl X x := by
  show X.env.scope.names.lookup x = _
  rw [C.s]; exact gloB_ok h
theorem Sc.v (C : Sc X N sc) (i : Nat) (h : nmB N sc i x = true) : OkE X (.Name x pos) (mVar i) := by
  obtain ⟨h1, h2, h3, h4⟩ := nmB_ok h
  exact okE_var (by rw [C.n]; exact h1) (by rw [C.s]; exact h2) h3 h4
theorem Sc.o (C : Sc X N sc) (i : Nat) (h : nmB N sc i x = true) : OkO X (.Name x pos) (.sl i) := by
  obtain ⟨h1, h2, h3, h4⟩ := nmB_ok h
  exact okO_sl (by rw [C.n]; exact h1) (by rw [C.s]; exact h2) h3 h4
theorem Sc.r {io : List Nat} (C : Sc X N sc) (i : Nat) (h : nmB N sc i x = true) : OkR X io (.Name x pos) (rVar io i) := by
  obtain ⟨h1, h2, h3, h4⟩ := nmB_ok h
  exact okR_var (by rw [C.n]; exact h1) (by rw [C.s]; exact h2) h3 h4
/-- a name that is stored to -/
def stB (N : List Str) (sc : Scope) (i : Nat) (x : Str) : Bool := decide (N.Nodup) && decide (N[i]? = some x) && locB sc x
theorem stB_ok (h : stB N sc i x = true) : N.Nodup ∧ N[i]? = some x ∧ sc.names.lookup x = some .local := by
  unfold stB at h
  simp only [Bool.and_eq_true, decide_eq_true_eq] at h
  exact ⟨h.1.1, h.1.2, locB_ok h.2⟩
theorem Sc.g (C : Sc X N sc) (i : Nat) (h : stB N sc i x = true) : OkG X (.Name x pos) (.nm i) := by
  obtain ⟨h1, h2, h3⟩ := stB_ok h
  exact okG_nm (by rw [C.n]; exact h1) (by rw [C.n]; exact h2) (.inl (by rw [C.s]; exact h3)) (.inr (by rw [C.s]; exact h3))
theorem Sc.set {io : List Nat} {m : SE} {p' : Pos} (C : Sc X N sc) (i : Nat) (h : stB N sc i x = true) (hio : i ∉ io) (he : OkE X e m) (hs : swapsWith e (some (.Name x p')) pos.line X.env = pure false) : OkS X io (.Assign [.Name x p'] e pos) (sSet i m) := by
  obtain ⟨h1, h2, h3⟩ := stB_ok h
  exact okS_set hio (set_plain (by rw [C.n]; exact h1) (by rw [C.n]; exact h2) (.inl (by rw [C.s]; exact h3)) (.inr (by rw [C.s]; exact h3)) hs) he
theorem Sc.own {io : List Nat} {m : SA} {p' : Pos} (C : Sc X N sc) (i : Nat) (h : stB N sc i x = true) (hio : i ∉ io) (he : OkN X e m) (hs : swapsWith e (some (.Name x p')) pos.line X.env = pure false) : OkS X io (.Assign [.Name x p'] e pos) (sOwn i m) := by
  obtain ⟨h1, h2, h3⟩ := stB_ok h
  exact okS_own hio (set_plain (by rw [C.n]; exact h1) (by rw [C.n]; exact h2) (.inl (by rw [C.s]; exact h3)) (.inr (by rw [C.s]; exact h3)) hs) he
theorem Sc.aug {io : List Nat} {m : SE} {op : Operator} {g : D → D → Option D} {p' : Pos} (C : Sc X N sc) (i : Nat) (h : stB N sc i x = true) (hio : i ∉ io) (hg : InS X op g) (he : OkE X e m) : OkS X io (.AugAssign (.Name x p') op e pos) (sAug i m g) := by
  obtain ⟨h1, h2, h3⟩ := stB_ok h
  exact okS_aug hio (by rw [C.n]; exact h1) (by rw [C.n]; exact h2) (.inl (by rw [C.s]; exact h3)) (.inr (by rw [C.s]; exact h3)) hg he
/-- a name that is stored to and captured by a comprehension -/
def stC (N : List Str) (sc : Scope) (i : Nat) (x : Str) : Bool := decide (N.Nodup) && decide (N[i]? = some x) && (match sc.names.lookup x with | some .cell => true | _ => false)
theorem stC_ok (h : stC N sc i x = true) : N.Nodup ∧ N[i]? = some x ∧ sc.names.lookup x = some .cell := by
  unfold stC at h
  simp only [Bool.and_eq_true, decide_eq_true_eq] at h
  refine ⟨h.1.1, h.1.2, ?_⟩
  have := h.2
  split at this
  · assumption
  · cases this
/-- in a def's own body each cell is its own -/
def Cells (X : Cx) : Prop := ∀ x, X.env.scope.names.lookup x = some .cell → X.fn x = true
theorem Sc.gC (C : Sc X N sc) (i : Nat) (hf : Cells X) (h : stC N sc i x = true) : OkG X (.Name x pos) (.nm i) := by
  obtain ⟨h1, h2, h3⟩ := stC_ok h
  exact okG_nm (by rw [C.n]; exact h1) (by rw [C.n]; exact h2) (.inr (by rw [C.s]; exact h3)) (.inl (hf _ (by rw [C.s]; exact h3)))
theorem Sc.setC {io : List Nat} {m : SE} {p' : Pos} (C : Sc X N sc) (i : Nat) (hf : Cells X) (h : stC N sc i x = true) (hio : i ∉ io) (he : OkE X e m) (hs : swapsWith e (some (.Name x p')) pos.line X.env = pure false) : OkS X io (.Assign [.Name x p'] e pos) (sSet i m) := by
  obtain ⟨h1, h2, h3⟩ := stC_ok h
  exact okS_set hio (set_plain (by rw [C.n]; exact h1) (by rw [C.n]; exact h2) (.inr (by rw [C.s]; exact h3)) (.inl (hf _ (by rw [C.s]; exact h3))) hs) he
theorem Sc.ownC {io : List Nat} {m : SA} {p' : Pos} (C : Sc X N sc) (i : Nat) (hf : Cells X) (h : stC N sc i x = true) (hio : i ∉ io) (he : OkN X e m) (hs : swapsWith e (some (.Name x p')) pos.line X.env = pure false) : OkS X io (.Assign [.Name x p'] e pos) (sOwn i m) := by
  obtain ⟨h1, h2, h3⟩ := stC_ok h
  exact okS_own hio (set_plain (by rw [C.n]; exact h1) (by rw [C.n]; exact h2) (.inr (by rw [C.s]; exact h3)) (.inl (hf _ (by rw [C.s]; exact h3))) hs) he
theorem Sc.augC {io : List Nat} {m : SE} {op : Operator} {g : D → D → Option D} {p' : Pos} (C : Sc X N sc) (i : Nat) (hf : Cells X) (h : stC N sc i x = true) (hio : i ∉ io) (hg : InS X op g) (he : OkE X e m) : OkS X io (.AugAssign (.Name x p') op e pos) (sAug i m g) := by
  obtain ⟨h1, h2, h3⟩ := stC_ok h
  exact okS_aug hio (by rw [C.n]; exact h1) (by rw [C.n]; exact h2) (.inr (by rw [C.s]; exact h3)) (.inl (hf _ (by rw [C.s]; exact h3))) hg he
/-- a comprehension's value to a name, stored within the line -/
def lcB (sc scope : Scope) (y : Str) (py pos : Pos) : Bool := (match sc.kind with | .function => true | _ => false) && (py.line == pos.line) && !(scope.names.any fun (n, k) => n == y && (k == .local || k == .cell))
theorem lcB_ok {scope : Scope} {y : Str} {py : Pos} (h : lcB sc scope y py pos = true) : sc.kind = .function ∧ (py.line == pos.line) = true ∧ (scope.names.any fun (n, k) => n == y && (k == .local || k == .cell)) = false := by
  unfold lcB at h
  simp only [Bool.and_eq_true, Bool.not_eq_true'] at h
  refine ⟨?_, h.1.2, h.2⟩
  have := h.1.1
  split at this
  · assumption
  · cases this
theorem Sc.lcS {y : Str} {py spos : Pos} {elt tg iter : Expr} {ifs : List Expr} {scope : Scope} {own : List (Str × Nat)} {t : Tg} (C : Sc X N sc) (i : Nat) (hc : X.calm = true) (h : stB N sc i y = true) (hl : lcB sc scope y py pos = true) (ok : blkC N sc scope own = true) (hix : own.map (·.2) = t.ix) (hs : ∀ x, foldedSetIterable iter X.env x = pure x) :
    ∀ (E : Ends) (sg : St) (H : Hp), tLc (UI X tg iter) (UGb X scope tg) (UTb X scope ifs) (UEb X scope elt) t.ix sg H (fun v H1 => E.nx (sg.set i (some v)) H1) → US X (.Assign [.Name y py] (.ListComp elt [⟨tg, iter, ifs, 0⟩] scope pos) spos) E sg H := by
  obtain ⟨h1, h2, h3⟩ := stB_ok h
  obtain ⟨l1, l2, l3⟩ := lcB_ok hl
  have hy : X.env.scope.names.lookup y = some .local := by rw [C.s]; exact h3
  exact set_lc hc (by rw [C.n]; exact h1) (by rw [C.n]; exact h2) hy (sw_true (by rw [C.s]; exact l1) hy l2 l3) (by rw [C.n, C.s]; exact blkOk_by ok) hix hs
theorem Sc.setLc {io : List Nat} {y : Str} {py spos : Pos} {elt tg iter : Expr} {ifs : List Expr} {scope : Scope} {src : SA} {t : Tg} {c : ST} {m : SE} (C : Sc X N sc) (i : Nat) (own : List (Str × Nat)) (hio : i ∉ io) (hc : X.calm = true) (h : stB N sc i y = true) (hl : lcB sc scope y py pos = true) (ok : blkC N sc scope own = true) (hix : own.map (·.2) = t.ix) (hs : ∀ x, foldedSetIterable iter X.env x = pure x)
    (hi : OkI X tg iter src) (hg : ∀ s0 H0 C cl fp, OkG (Cx.inBlk X scope s0 H0 C cl fp) tg t) (ht : ∀ s0 H0 C cl fp, OkTs (Cx.inBlk X scope s0 H0 C cl fp) ifs c) (he : ∀ s0 H0 C cl fp, OkE (Cx.inBlk X scope s0 H0 C cl fp) elt m) :
    OkS X io (.Assign [.Name y py] (.ListComp elt [⟨tg, iter, ifs, 0⟩] scope pos) spos) (sSet i (listOf (nLc src t c m))) := okS_set hio (C.lcS i hc h hl ok hix hs) (okNT_lc hi hg ht he).dat
theorem Sc.ownLc {io : List Nat} {y : Str} {py spos : Pos} {elt tg iter : Expr} {ifs : List Expr} {scope : Scope} {src : SA} {t : Tg} {c : ST} {m : SE} (C : Sc X N sc) (i : Nat) (own : List (Str × Nat)) (hio : i ∉ io) (hc : X.calm = true) (h : stB N sc i y = true) (hl : lcB sc scope y py pos = true) (ok : blkC N sc scope own = true) (hix : own.map (·.2) = t.ix) (hs : ∀ x, foldedSetIterable iter X.env x = pure x)
    (hi : OkI X tg iter src) (hg : ∀ s0 H0 C cl fp, OkG (Cx.inBlk X scope s0 H0 C cl fp) tg t) (ht : ∀ s0 H0 C cl fp, OkTs (Cx.inBlk X scope s0 H0 C cl fp) ifs c) (he : ∀ s0 H0 C cl fp, OkE (Cx.inBlk X scope s0 H0 C cl fp) elt m) :
    OkS X io (.Assign [.Name y py] (.ListComp elt [⟨tg, iter, ifs, 0⟩] scope pos) spos) (sOwn i (nLc src t c m)) := okS_own hio (C.lcS i hc h hl ok hix hs) (okNT_lc hi hg ht he)
theorem Sc.lc {elt tg iter : Expr} {ifs : List Expr} {scope : Scope} {src : SA} {t : Tg} {c : ST} {m : SE} (C : Sc X N sc) (own : List (Str × Nat)) (hc : X.calm = true) (hN : N.Nodup) (ok : blkC N sc scope own = true) (hix : own.map (·.2) = t.ix) (hs : ∀ x, foldedSetIterable iter X.env x = pure x)
    (hi : OkI X tg iter src) (hg : ∀ s0 H0 C cl fp, OkG (Cx.inBlk X scope s0 H0 C cl fp) tg t) (ht : ∀ s0 H0 C cl fp, OkTs (Cx.inBlk X scope s0 H0 C cl fp) ifs c) (he : ∀ s0 H0 C cl fp, OkE (Cx.inBlk X scope s0 H0 C cl fp) elt m) :
    OkN X (.ListComp elt [⟨tg, iter, ifs, 0⟩] scope pos) (nLc src t c m) := okN_lc hc (by rw [C.n]; exact hN) hi (by rw [C.n, C.s]; exact blkOk_by ok) hix hg ht he hs
theorem Sc.put {io : List Nat} {k m : SE} {ek : Expr} {px pt : Pos} (C : Sc X N sc) (i : Nat) (h : nmB N sc i x = true) (hk : OkE X ek k) (he : OkE X e m)
    (ha : ∀ v, assign (.Subscript (.Name x px) ek pt) X.env v = (do
      let ov ← holding [v] (eval (.Name x px) X.env)
      let iv ← holding [v, ov] (eval ek X.env)
      standAt pt
      holding [v, ov, iv] (setItem ov iv v)
      release [v, ov, iv] []))
    (hs : swapsWithSole [.Subscript (.Name x px) ek pt] e pos.line X.env = pure false) (hw : swappedStores [.Subscript (.Name x px) ek pt] e X.env = pure none) (h1 : (assignEach [.Subscript (.Name x px) ek pt] X.env).map (·.2) = [assign (.Subscript (.Name x px) ek pt) X.env]) :
    OkS X io (.Assign [.Subscript (.Name x px) ek pt] e pos) (sPut i k m) := by
  obtain ⟨q1, q2, q3, q4⟩ := nmB_ok h
  exact okS_put (by rw [C.n]; exact q1) (by rw [C.s]; exact q2) q3 q4 hk he ha hs hw h1
theorem Sc.app {apos cpos px : Pos} {m : SE} (C : Sc X N sc) (i : Nat) (h : nmB N sc i x = true) (he : OkE X e m) (hs : starEach [e] X.env = (false, eval e X.env) :: starEach [] X.env) (hline : (apos.endLine == cpos.line) = true) : OkE X (.Call (.Attribute (.Name x px) "append" apos) [e] [] cpos) (mAppend i m) := by
  obtain ⟨q1, q2, q3, q4⟩ := nmB_ok h
  exact okE_append (by rw [C.n]; exact q1) (by rw [C.s]; exact q2) q3 q4 he hs hline
theorem Sc.ty (C : Sc X N sc) {t : String} (h : gloB sc x = true) (m : X.mg x = none) (v : bootBuiltins x = some (.type t)) (hn : x ≠ "__name__") (hd : (x == ("__debug__" : Str)) = false) : IsTy X x t := ⟨C.gl h, m, v, hn, hd⟩
theorem Sc.df (C : Sc X N sc) {f : Addr} {fd : FuncData} {ps : List Str} (h : gloB sc x = true) (m : X.mg x = some (.ref f)) (kp : PySem.W.keepIn X.K (.ref f) = true) (b : Binds X.K fd ps []) (db : (x == ("__debug__" : Str)) = false) : DefAt X x f fd ps := ⟨C.gl h, m, kp, b, db⟩
theorem Sc.two {io : List Nat} {j : Nat} {y : Str} {a b : Expr} {p1 p2 pt : Pos} {kt k2 : Nat} {pt2 : Pos} {as : List Av} (C : Sc X N sc) (i j : Nat) (hc : X.calm = true) (h1 : stB N sc i x = true) (h2 : stB N sc j y = true) (hij : i ≠ j) (hio : ∀ l ∈ io, l ∉ [i, j]) (h : OkAv X [a, b] as)
    (hw : swappedStores [.Tuple [.Name x p1, .Name y p2] kt pt] (.Tuple [a, b] k2 pt2) X.env = pure (some [x, y])) (hs : swapsWithSole [.Tuple [.Name x p1, .Name y p2] kt pt] (.Tuple [a, b] k2 pt2) pos.line X.env = pure false) :
    OkS X io (.Assign [.Tuple [.Name x p1, .Name y p2] kt pt] (.Tuple [a, b] k2 pt2) pos) (sPar [i, j] as) := by
  obtain ⟨q1, q2, q3⟩ := stB_ok h1
  obtain ⟨_, r2, r3⟩ := stB_ok h2
  exact okS_par h hio (par2 hc (by rw [C.n]; exact q1) (by rw [C.n]; exact q2) (by rw [C.n]; exact r2) hij (by rw [C.s]; exact q3) (by rw [C.s]; exact r3) hw hs)
theorem Sc.three {io : List Nat} {y z : Str} {a b c : Expr} {p1 p2 p3 pt : Pos} {kt k2 : Nat} {pt2 : Pos} {as : List Av} (C : Sc X N sc) (i j l : Nat) (hc : X.calm = true) (h1 : stB N sc i x = true) (h2 : stB N sc j y = true) (h3 : stB N sc l z = true) (hij : i ≠ j) (hil : i ≠ l) (hjl : j ≠ l) (hio : ∀ t ∈ io, t ∉ [i, j, l]) (h : OkAv X [a, b, c] as)
    (hw : swappedStores [.Tuple [.Name x p1, .Name y p2, .Name z p3] kt pt] (.Tuple [a, b, c] k2 pt2) X.env = pure (some [x, y, z])) (hs : swapsWithSole [.Tuple [.Name x p1, .Name y p2, .Name z p3] kt pt] (.Tuple [a, b, c] k2 pt2) pos.line X.env = pure false) :
    OkS X io (.Assign [.Tuple [.Name x p1, .Name y p2, .Name z p3] kt pt] (.Tuple [a, b, c] k2 pt2) pos) (sPar [i, j, l] as) := by
  obtain ⟨q1, q2, q3⟩ := stB_ok h1
  obtain ⟨_, r2, r3⟩ := stB_ok h2
  obtain ⟨_, t2, t3⟩ := stB_ok h3
  exact okS_par h hio (par3 hc (by rw [C.n]; exact q1) (by rw [C.n]; exact q2) (by rw [C.n]; exact r2) (by rw [C.n]; exact t2) hij hil hjl (by rw [C.s]; exact q3) (by rw [C.s]; exact r3) (by rw [C.s]; exact t3) hw hs)
end
theorem cells_body {P : Program} {w : World} {K : PySem.W.Frag} {mg : Str → Option Value} {base : Heap} {N : List Str} {qual : Str} {st : Stmt} {f : Addr} {cdv : Value} {A : Around} {outer : List PySem.Env} {s : Shared} {H : Hp} : Cells (bodyCx P w K mg base N qual st f cdv A outer s H) := fun _ _ => rfl
/-! ### rooms, contracts -/
theorem Room.un64 {k : Nat} {A : Around} (r : RoomG k A) : A.units + 64 < cLine := by have := r.rm.un; omega
theorem Room.un65 {k : Nat} {A : Around} (r : RoomG k A) : A.units + 65 < cLine := by have := r.rm.un; omega
section
variable {P : Program} {w : World} {K : PySem.W.Frag} {mg : Str → Option Value} {base : Heap} {f : Addr} {fd : FuncData} {ps : List Str} {k : Nat}
theorem fnG_none : FnG P w K mg base k f fd ps fun _ => none := ⟨fun _ _ _ _ _ _ _ _ _ _ _ _ _ _ _ _ _ _ h _ => nomatch h⟩
theorem fnN_none : FnN P w K mg base k f fd ps fun _ => none := ⟨fun _ _ _ _ _ _ _ _ _ _ _ _ _ _ _ _ _ _ h _ => nomatch h⟩
end
/-! ### the head -/
section
variable {P : Program} {w : World} {K : PySem.W.Frag} {mg mb : Str → Option Value} {k : Nat} {fa a : Addr} {fd : FuncData} {x : Str} {F : FSem} {st : Shared} {us : List Value} {ns : List Int}
theorem head_run {H : Hp} (KX : K.In st.heap) (nsG : st.heap.Ns mainGlobals mg) (nsB : st.heap.Ns builtinsNs mb) (bb : ∀ x : Str, x ≠ "__name__" → mb x = bootBuiltins x) (lim : st.heap.NoLimit) (gn : st.gens = #[])
    (at_a : st.heap.get? a = some { cls := .type "list", data := .seq us.toArray }) (hr : RoomG k callerA) (G : ∀ base : Heap, FnG P w K mg base k fa fd [x] F) (bd : ∀ (s : Shared) (u : Value), BindsTo s fd ⟨[u], []⟩ [(x, u)])
    (at_H : ScrAt K (fun _ => False) H a ns) (ok : HOk P w H st.heap) (only : ∀ b o, H b = some o → b = a ∧ ∃ ob zs, o = .frz ob (.lst zs)) (nk : ∀ o, H a = some o → K.lookup a = none) {as' : List Sl} (hF : F [.scr ns] = some (.bool true, as')) :
    codeAny (model P w) callerA (.call (.ref fa) ⟨[.ref a], []⟩) (fun r s' => r = .ok (.ret (.bool true)) ∧ OldK st.heap s'.heap ∧ s'.os = st.os ∧ PyProof.Rows.AllBare s'.gens) st := by
  have free_of : ∀ {b : Addr} {o : Obj} {es : Array DictEntry} {ep : Nat}, st.heap.get? b = some o → o.data = .dict es ep → H b = none := by
    intro b o es ep h1 h2
    match hh : H b with
    | none => rfl
    | some u =>
      obtain ⟨rfl, _⟩ := only b u hh
      rw [at_a] at h1
      cases h1
      exact Data.noConfusion h2
  have lift : ∀ {b : Addr} {m : Str → Option Value}, st.heap.Ns b m → (hidT st.heap H).Ns b m := by
    rintro b m ⟨o, es, ep, h1, h2, h3⟩
    exact ⟨o, es, ep, hidT_get h1 (free_of h1 h2), h2, h3⟩
  have KB : K.In (hidT st.heap H) := by
    intro b o h1
    refine hidT_get (KX b o h1) ?_
    match hh : H b with
    | none => rfl
    | some u =>
      obtain ⟨rfl, _⟩ := only b u hh
      rw [nk u hh] at h1
      cases h1
  have md : Mod K mg (hidT st.heap H) := by
    obtain ⟨mc, c1, c2⟩ := lim
    exact ⟨KB, lift nsG, ⟨mb, lift nsB, bb⟩, ⟨mc, lift c1, c2⟩⟩
  have en : Env0 P w K mg (hidT st.heap H) callerA [] st H := ⟨rfl, md, fun _ _ h => of_hidT h, Nat.le_of_eq (hidT_size _ _), trivial, (fun b hb => nomatch (show b ∈ ([] : List Addr) from hb)), ok, .of_eq gn⟩
  have sm : Sim K (fun _ => False) (stOf [.ref a]) H (envOf [.scr ns]) := by
    refine ⟨rfl, fun i y h => ?_, fun i y h => ?_, fun i y h => ?_, fun _ h => h.elim, fun i j xs ys b h _ _ _ => ?_, fun b ⟨i, xs, h, _⟩ => ?_⟩
    · have := envOf_get.mp h
      match i, this with
      | 0, h => cases h
      | i + 1, h => cases h
    · have := envOf_get.mp h
      match i, this with
      | 0, h => cases h
      | i + 1, h => cases h
    · have := envOf_get.mp h
      match i, this with
      | 0, h => cases h; exact ⟨a, rfl, at_H⟩
      | i + 1, h => cases h
    · have := envOf_get.mp h
      match i, this with
      | 0, h => cases h
      | i + 1, h => cases h
    · have := envOf_get.mp h
      match i, this with
      | 0, h => cases h
      | i + 1, h => cases h
  have run := (G _).run callerA [] st H ⟨[.ref a], []⟩ [.ref a] [.ref a] (fun _ => False) [.scr ns] as' (.bool true) (fun v _ => v = .bl true) hr en (bd st (.ref a)) (.cons rfl .nil) rfl sm hF (fun v H' _ q => by cases q; rfl)
  refine codeAny_mono run fun r s' h => ?_
  match r, h with
  | .ok (.ret u), h =>
    obtain ⟨v, H', os, bare, un, hok', r', rfl⟩ := h
    obtain rfl : u = Value.bool true := r'
    refine ⟨rfl, OldK.of_keep fun b o e => ?_, os, bare⟩
    match hh : H b with
    | none => exact un.keep b o e hh (fun z => nomatch (show b ∈ ([] : List Addr) from z)) (fun z => nomatch z)
    | some t =>
      obtain ⟨rfl, ob, zs, rfl⟩ := only b t hh
      obtain ⟨e1, _⟩ := ok b _ hh
      obtain ⟨e2, _⟩ := hok' b _ (un.frzs b ob _ hh)
      rw [e] at e1
      cases e1
      exact e2
  | .ok .next, h => exact False.elim h
  | .ok .brk, h => exact False.elim h
  | .ok .cont, h => exact False.elim h
  | .error _, h => exact False.elim h
theorem head_call (KX : K.In st.heap) (nsG : st.heap.Ns mainGlobals mg) (nsB : st.heap.Ns builtinsNs mb) (bb : ∀ x : Str, x ≠ "__name__" → mb x = bootBuiltins x) (lim : st.heap.NoLimit) (gn : st.gens = #[])
    (at_a : st.heap.get? a = some { cls := .type "list", data := .seq us.toArray }) (hi : PyProof.Rows.IntsAre us ns) (hl : ns.length ≤ sizeLine) (hr : RoomG k callerA) (G : ∀ base : Heap, FnG P w K mg base k fa fd [x] F) (bd : ∀ (s : Shared) (u : Value), BindsTo s fd ⟨[u], []⟩ [(x, u)])
    {as' : List Sl} (hF : F [.scr ns] = some (.bool true, as')) :
    codeAny (model P w) callerA (.call (.ref fa) ⟨[.ref a], []⟩) (fun r s' => r = .ok (.ret (.bool true)) ∧ OldK st.heap s'.heap ∧ s'.os = st.os ∧ PyProof.Rows.AllBare s'.gens) st := by
  have vv := vals_ints hi
  have ll := hi.length
  match hk : K.lookup a with
  | some o =>
    have e := KX a o hk
    rw [at_a] at e
    cases e
    refine head_run (H := fun _ => none) KX nsG nsB bb lim gn at_a hr G bd (.inr ⟨_, us.toArray, _, hk, rfl, rfl, rfl, ?_, ?_⟩) (fun b u z => nomatch z) (fun b u z => nomatch z) (fun u z => nomatch z) hF
    · rw [List.size_toArray, ll]; exact hl
    · simpa using vv
  | none =>
    have key : ∀ {b : Addr} {u : HO}, (fun b => if b = a then some (HO.frz { cls := .type "list", data := .seq us.toArray } (.lst (ns.map V.int))) else none) b = some u → b = a ∧ u = HO.frz { cls := .type "list", data := .seq us.toArray } (.lst (ns.map V.int)) := by
      intro b u z
      simp only at z
      split at z
      · rename_i h; exact ⟨h, (Option.some.inj z).symm⟩
      · cases z
    refine head_run (H := fun b => if b = a then some (HO.frz { cls := .type "list", data := .seq us.toArray } (.lst (ns.map V.int))) else none) KX nsG nsB bb lim gn at_a hr G bd (.inl ⟨_, if_pos rfl, id⟩) (fun b u z => ?_) (fun b u z => ?_) (fun u z => hk) hF
    · obtain ⟨rfl, rfl⟩ := key z
      exact ⟨at_a, by rw [List.length_map]; exact hl, us, _, vv, at_a⟩
    · obtain ⟨rfl, rfl⟩ := key z
      exact ⟨rfl, _, _, rfl⟩
end
/-- the goal that k_head leaves -/
theorem walkG {l : PySem.W.OpenLaw} {n k : Nat} {q : Program} {loose : List Str} {XP : (Str → Option Value) → Heap → Prop} {YP : World → Heap → Prop} {d : DefRec} {K : Params → PySem.W.Frag} {x : Str} {F : FSem} (hn : l.most = some n) (hs : n ≤ sizeLine) (hdf : d.params.defaults = []) (hr : RoomG k callerA)
    (hY : ∀ (w : World) (h : Heap), YP w h → (K w.params).In h)
    (hG : ∀ (w : World) (mg : Str → Option Value) (fa : Addr) (h : Heap), (K w.params).In h → h.Ns mainGlobals mg → mg d.name = some (.ref fa) → ∃ fd : FuncData, (∀ (s : Shared) (u : Value), BindsTo s fd ⟨[u], []⟩ [(x, u)]) ∧ ∀ base : Heap, FnG l.prog w (K w.params) mg base k fa fd [x] F)
    (hF : ∀ ns : List Int, ns.length ≤ n → (∀ z ∈ ns, Builtin.Int.intBits z ≤ 1048576) → ∃ as', F [.scr ns] = some (.bool true, as')) : PySem.W.WalkO q loose XP YP l.row.toRowW d [] (fun f vs => PySem.call f vs) := by
  refine Att.attach_callB hn hdf fun w s₀ s₁ mg mb fa o pm cd doc a vs ns G Y ho hd hcd hmg hobj hints hlen hbits hg => ?_
  obtain ⟨fd, bd, hG⟩ := hG w mg fa _ (hY w _ Y) G.T.g hmg
  obtain ⟨as', e⟩ := hF ns hlen hbits
  exact head_call (hY w _ Y) G.T.g G.T.b G.T.builtins G.T.nolimit hg hobj hints (Nat.le_trans hlen hs) hr hG bd e
end DL

namespace DL
open PySem PySem.Spec L2
/-! ### plain tools: what the meanings compute -/
theorem sz {n : Nat} (h : n ≤ 1000) : (n ≤ sizeLine) = True := eq_true (Nat.le_trans h (by decide))
mutual
def tupD : D → D
  | .list xs => .tuple (tupL xs)
  | .tuple xs => .tuple (tupL xs)
  | .none => .none
  | .bool b => .bool b
  | .int i => .int i
  | .str x => .str x
  | .dict k => .dict k
def tupL : List D → List D
  | [] => []
  | x :: xs => tupD x :: tupL xs
end
mutual
def lstD : D → D
  | .list xs => .list (lstL xs)
  | .tuple xs => .list (lstL xs)
  | .none => .none
  | .bool b => .bool b
  | .int i => .int i
  | .str x => .str x
  | .dict k => .dict k
def lstL : List D → List D
  | [] => []
  | x :: xs => lstD x :: lstL xs
end
theorem tupL_map : ∀ xs : List D, tupL xs = xs.map tupD
  | [] => rfl
  | x :: xs => by rw [tupL, tupL_map xs]; rfl
theorem lstL_map : ∀ xs : List D, lstL xs = xs.map lstD
  | [] => rfl
  | x :: xs => by rw [lstL, lstL_map xs]; rfl
/-- no dict, no list longer than m, at most n levels -/
def fit (m : Nat) : Nat → D → Bool
  | 0, .list _ => false
  | 0, .tuple _ => false
  | n + 1, .list xs => decide (xs.length ≤ m) && xs.all (fit m n)
  | n + 1, .tuple xs => decide (xs.length ≤ m) && xs.all (fit m n)
  | _, .dict _ => false
  | _, .str x => decide (x.length ≤ m)
  | _, .int _ => true
  | _, .bool _ => true
  | _, .none => true
theorem fit_mono {m : Nat} : ∀ {n k : Nat} {d : D}, n ≤ k → fit m n d = true → fit m k d = true
  | n, k, .none, _, _ => by cases k <;> rfl
  | n, k, .bool _, _, _ => by cases k <;> rfl
  | n, k, .int _, _, _ => by cases k <;> rfl
  | n, k, .str x, _, h => by cases n <;> cases k <;> exact h
  | 0, k, .list xs, _, h => by cases h
  | 0, k, .tuple xs, _, h => by cases h
  | n + 1, 0, .list xs, hk, _ => by omega
  | n + 1, 0, .tuple xs, hk, _ => by omega
  | n + 1, k + 1, .list xs, hk, h => by
    simp only [fit, Bool.and_eq_true, List.all_eq_true] at h ⊢
    exact ⟨h.1, fun x hx => fit_mono (by omega) (h.2 x hx)⟩
  | n + 1, k + 1, .tuple xs, hk, h => by
    simp only [fit, Bool.and_eq_true, List.all_eq_true] at h ⊢
    exact ⟨h.1, fun x hx => fit_mono (by omega) (h.2 x hx)⟩
  | 0, k, .dict _, _, h => by cases h
  | n + 1, k, .dict _, _, h => by cases h
theorem fit_list {m n : Nat} {xs : List D} (h : fit m n (.list xs) = true) : ∃ j, n = j + 1 ∧ xs.length ≤ m ∧ ∀ x ∈ xs, fit m j x = true := by
  cases n with
  | zero => cases h
  | succ j =>
    simp only [fit, Bool.and_eq_true, List.all_eq_true, decide_eq_true_eq] at h
    exact ⟨j, rfl, h.1, h.2⟩
theorem fit_tuple {m n : Nat} {xs : List D} (h : fit m n (.tuple xs) = true) : ∃ j, n = j + 1 ∧ xs.length ≤ m ∧ ∀ x ∈ xs, fit m j x = true := by
  cases n with
  | zero => cases h
  | succ j =>
    simp only [fit, Bool.and_eq_true, List.all_eq_true, decide_eq_true_eq] at h
    exact ⟨j, rfl, h.1, h.2⟩
theorem fit_dict {m n : Nat} {k : List (PyData × PyData)} (h : fit m n (.dict k) = true) : False := by cases n <;> cases h
theorem fit_of_list {m n : Nat} {xs : List D} (h1 : xs.length ≤ m) (h : ∀ x ∈ xs, fit m n x = true) : fit m (n + 1) (.list xs) = true := by
  simp only [fit, Bool.and_eq_true, List.all_eq_true, decide_eq_true_eq]
  exact ⟨h1, h⟩
theorem fit_of_tuple {m n : Nat} {xs : List D} (h1 : xs.length ≤ m) (h : ∀ x ∈ xs, fit m n x = true) : fit m (n + 1) (.tuple xs) = true := by
  simp only [fit, Bool.and_eq_true, List.all_eq_true, decide_eq_true_eq]
  exact ⟨h1, h⟩
theorem depthAll_le {n : Nat} : ∀ {xs : List D}, (∀ x ∈ xs, x.depth ≤ n) → PyData.depthAll xs ≤ n
  | [], _ => Nat.zero_le _
  | x :: xs, h => by
    unfold PyData.depthAll
    exact Nat.max_le.mpr ⟨h x List.mem_cons_self, depthAll_le fun y hy => h y (List.mem_cons_of_mem _ hy)⟩
theorem fit_depth {m : Nat} : ∀ {n : Nat} {d : D}, fit m n d = true → d.depth ≤ n
  | n, .none, _ => Nat.zero_le _
  | n, .bool _, _ => Nat.zero_le _
  | n, .int _, _ => Nat.zero_le _
  | n, .str _, _ => Nat.zero_le _
  | n, .dict _, h => (fit_dict h).elim
  | 0, .list xs, h => by cases h
  | 0, .tuple xs, h => by cases h
  | n + 1, .list xs, h => by
    obtain ⟨j, e, _, h2⟩ := fit_list h
    cases e
    have := depthAll_le fun x hx => fit_depth (h2 x hx)
    unfold PyData.depth
    omega
  | n + 1, .tuple xs, h => by
    obtain ⟨j, e, _, h2⟩ := fit_tuple h
    cases e
    have := depthAll_le fun x hx => fit_depth (h2 x hx)
    unfold PyData.depth
    omega
theorem fit_flat {m n : Nat} {d : D} (hn : n ≤ 60) (h : fit m n d = true) : flatD d = true := by
  unfold flatD
  have := fit_depth h
  exact decide_eq_true (by omega)
mutual
theorem eqv_refl : ∀ {m n : Nat} {d : D}, fit m n d = true → PyData.eqv d d = true
  | m, n, .none, _ => rfl
  | m, n, .bool b, _ => by unfold PyData.eqv; exact beq_self_eq_true _
  | m, n, .int i, _ => by unfold PyData.eqv; exact beq_self_eq_true _
  | m, n, .str x, _ => by unfold PyData.eqv; exact beq_self_eq_true _
  | m, n, .dict _, h => (fit_dict h).elim
  | m, n, .list xs, h => by
    obtain ⟨j, _, _, h2⟩ := fit_list h
    unfold PyData.eqv
    exact eqvAll_refl h2
  | m, n, .tuple xs, h => by
    obtain ⟨j, _, _, h2⟩ := fit_tuple h
    unfold PyData.eqv
    exact eqvAll_refl h2
theorem eqvAll_refl : ∀ {m n : Nat} {xs : List D}, (∀ x ∈ xs, fit m n x = true) → PyData.eqvAll xs xs = true
  | m, n, [], _ => rfl
  | m, n, x :: xs, h => by
    unfold PyData.eqvAll
    rw [eqv_refl (h x List.mem_cons_self), eqvAll_refl fun y hy => h y (List.mem_cons_of_mem _ hy)]
    rfl
end
mutual
theorem fit_tupD : ∀ {m n : Nat} {d : D}, fit m n d = true → fit m n (tupD d) = true
  | m, n, .none, h => h
  | m, n, .bool b, h => h
  | m, n, .int i, h => h
  | m, n, .str x, h => h
  | m, n, .dict _, h => h
  | m, n, .list xs, h => by
    obtain ⟨j, e, h1, h2⟩ := fit_list h
    subst e
    unfold tupD
    obtain ⟨l1, l2⟩ := fit_tupL h2
    exact fit_of_tuple (by rw [l2]; exact h1) l1
  | m, n, .tuple xs, h => by
    obtain ⟨j, e, h1, h2⟩ := fit_tuple h
    subst e
    unfold tupD
    obtain ⟨l1, l2⟩ := fit_tupL h2
    exact fit_of_tuple (by rw [l2]; exact h1) l1
theorem fit_tupL : ∀ {m n : Nat} {xs : List D}, (∀ x ∈ xs, fit m n x = true) → (∀ x ∈ tupL xs, fit m n x = true) ∧ (tupL xs).length = xs.length
  | m, n, [], h => ⟨(fun x hx => nomatch hx), rfl⟩
  | m, n, x :: xs, h => by
    have a := fit_tupD (h x List.mem_cons_self)
    obtain ⟨b, c⟩ := fit_tupL (m := m) (n := n) (xs := xs) fun y hy => h y (List.mem_cons_of_mem _ hy)
    unfold tupL
    refine ⟨fun y hy => ?_, by simp [c]⟩
    rcases List.mem_cons.mp hy with z | z
    · rw [z]; exact a
    · exact b y z
end
mutual
theorem tup_lst : ∀ {d : D}, tupD (lstD d) = tupD d
  | .none => rfl
  | .bool b => rfl
  | .int i => rfl
  | .str x => rfl
  | .dict _ => rfl
  | .list xs => by unfold lstD tupD; rw [tup_lstL]
  | .tuple xs => by unfold lstD; rw [tupD, tupD, tup_lstL]
theorem tup_lstL : ∀ {xs : List D}, tupL (lstL xs) = tupL xs
  | [] => rfl
  | x :: xs => by unfold lstL tupL; rw [tup_lst, tup_lstL]
end
mutual
theorem fit_lstD : ∀ {m n : Nat} {d : D}, fit m n d = true → fit m n (lstD d) = true
  | m, n, .none, h => h
  | m, n, .bool b, h => h
  | m, n, .int i, h => h
  | m, n, .str x, h => h
  | m, n, .dict _, h => h
  | m, n, .list xs, h => by
    obtain ⟨j, e, h1, h2⟩ := fit_list h
    subst e
    unfold lstD
    obtain ⟨l1, l2⟩ := fit_lstL h2
    exact fit_of_list (by rw [l2]; exact h1) l1
  | m, n, .tuple xs, h => by
    obtain ⟨j, e, h1, h2⟩ := fit_tuple h
    subst e
    unfold lstD
    obtain ⟨l1, l2⟩ := fit_lstL h2
    exact fit_of_list (by rw [l2]; exact h1) l1
theorem fit_lstL : ∀ {m n : Nat} {xs : List D}, (∀ x ∈ xs, fit m n x = true) → (∀ x ∈ lstL xs, fit m n x = true) ∧ (lstL xs).length = xs.length
  | m, n, [], h => ⟨(fun x hx => nomatch hx), rfl⟩
  | m, n, x :: xs, h => by
    have a := fit_lstD (h x List.mem_cons_self)
    obtain ⟨b, c⟩ := fit_lstL (m := m) (n := n) (xs := xs) fun y hy => h y (List.mem_cons_of_mem _ hy)
    unfold lstL
    refine ⟨fun y hy => ?_, by simp [c]⟩
    rcases List.mem_cons.mp hy with z | z
    · rw [z]; exact a
    · exact b y z
end
/-! parts of lists -/
section
variable {α : Type}
theorem cut_from (xs : List α) (j : Nat) : cutG xs (some (j : Int)) none = xs.drop j := by
  unfold cutG
  rw [HT.sIx_nat, HT.sIx_none]
  by_cases h : j ≤ xs.length
  · rw [Nat.min_eq_left h]
    exact List.take_of_length_le (by rw [List.length_drop]; exact Nat.le_refl _)
  · rw [Nat.min_eq_right (by omega), List.drop_length, List.drop_eq_nil_of_le (by omega)]
    simp
theorem cut_to (xs : List α) (j : Nat) : cutG xs none (some (j : Int)) = xs.take j := by
  unfold cutG
  rw [HT.sIx_nat, HT.sIx_none, List.drop_zero, Nat.sub_zero]
  by_cases h : j ≤ xs.length
  · rw [Nat.min_eq_left h]
  · rw [Nat.min_eq_right (by omega), List.take_length, List.take_of_length_le (by omega)]
theorem cut_but (xs : List α) : cutG xs none (some (-1)) = xs.dropLast := by
  unfold cutG
  rw [HT.sIx_none, List.drop_zero, Nat.sub_zero]
  have e : HT.sIx xs.length xs.length (some (-1)) = xs.length - 1 := by
    show (if (-1 : Int) < 0 then ((-1 : Int) + (xs.length : Int)).toNat else min (-1 : Int).toNat xs.length) = _
    rw [if_pos (by omega)]
    omega
  rw [e, List.dropLast_eq_take]
theorem at0 (x : α) (xs : List α) : atI (x :: xs) 0 = some x := atI_nat (j := 0) rfl
theorem at1 (x y : α) (xs : List α) : atI (x :: y :: xs) 1 = some y := atI_nat (j := 1) rfl
theorem at2 (x y z : α) (xs : List α) : atI (x :: y :: z :: xs) 2 = some z := atI_nat (j := 2) rfl
theorem atN (xs : List α) (j : Nat) (x : α) (h : xs[j]? = some x) : atI xs (j : Int) = some x := atI_nat h
theorem atL {xs : List α} {x : α} (h : xs.getLast? = some x) : atI xs (-1) = some x := by
  have hne : xs ≠ [] := fun e => by subst e; cases h
  have e := List.dropLast_concat_getLast hne
  rw [List.getLast?_eq_some_getLast hne] at h
  cases h
  have := atI_last xs.dropLast (xs.getLast hne)
  rw [e] at this
  exact this
end
theorem fEq_of {n : Nat} {x y : D} {m : Nat} (hn : n ≤ 60) (h : fit m n x = true) : fEq x y = some (.bool (PyData.eqv x y)) := by
  unfold fEq
  rw [fit_flat hn h]
  rfl
theorem fNe_of {n : Nat} {x y : D} {m : Nat} (hn : n ≤ 60) (h : fit m n x = true) : fNe x y = some (.bool (!PyData.eqv x y)) := by
  unfold fNe
  rw [fit_flat hn h]
  rfl
theorem fEq_int (i j : Int) : fEq (.int i) (.int j) = some (.bool (decide (i = j))) := by
  rw [fEq_of (n := 0) (m := 0) (by omega) rfl]
  unfold PyData.eqv
  by_cases h : i = j <;> simp [h]
theorem fNe_int (i j : Int) : fNe (.int i) (.int j) = some (.bool (!decide (i = j))) := by
  rw [fNe_of (n := 0) (m := 0) (by omega) rfl]
  unfold PyData.eqv
  by_cases h : i = j <;> simp [h]
theorem fEq_str (x y : Str) : fEq (.str x) (.str y) = some (.bool (x == y)) := by
  unfold fEq
  have : flatD (.str x) = true := rfl
  rw [this]
  rfl
theorem fNe_str (x y : Str) : fNe (.str x) (.str y) = some (.bool (!(x == y))) := by
  unfold fNe
  have : flatD (.str x) = true := rfl
  rw [this]
  rfl
theorem fEq_r {x y : D} (h : flatD y = true) : fEq x y = some (.bool (PyData.eqv x y)) := by
  unfold fEq
  rw [h, Bool.or_true]
  rfl
theorem fNe_r {x y : D} (h : flatD y = true) : fNe x y = some (.bool (!PyData.eqv x y)) := by
  unfold fNe
  rw [h, Bool.or_true]
  rfl
theorem boolsOf_map {α : Type} (f : α → Bool) : ∀ xs : List α, boolsOf (xs.map fun x => .bool (f x)) = some (xs.map f)
  | [] => rfl
  | x :: xs => by
    rw [List.map_cons, boolsOf, boolsOf_map f xs]
    rfl
/-! loops -/
theorem lc_filter {t : Tg} {c : ST} {m : SE} {vs : List Nat} {r : DL.Env} (p : D → Bool) (f : D → D) : ∀ {ds : List D}, (∀ d ∈ ds, ∃ r1, t.bind d r = some r1 ∧ c r1 = some (p d, r1) ∧ (p d = true → m r1 = some (f d, r1)) ∧ wipeE r1 vs = r) → lcLoop t c m vs ds r = some ((ds.filter p).map f, r)
  | [], _ => rfl
  | d :: ds, h => by
    obtain ⟨r1, h1, h2, h3, h4⟩ := h d List.mem_cons_self
    have ih := lc_filter p f (t := t) (c := c) (m := m) (vs := vs) (ds := ds) fun x hx => h x (List.mem_cons_of_mem _ hx)
    unfold lcLoop
    rw [h1]
    simp only
    rw [h2]
    cases hp : p d with
    | true =>
      simp only
      rw [h3 hp]
      simp only
      rw [h4, ih]
      simp [hp]
    | false =>
      simp only
      rw [h4, ih]
      simp [hp]
theorem lc_map {t : Tg} {m : SE} {vs : List Nat} {r : DL.Env} (f : D → D) {ds : List D} (h : ∀ d ∈ ds, ∃ r1, t.bind d r = some r1 ∧ m r1 = some (f d, r1) ∧ wipeE r1 vs = r) : lcLoop t tTrue m vs ds r = some (ds.map f, r) := by
  rw [lc_filter (fun _ => true) f fun d hd => ?_, List.filter_eq_self.mpr fun _ _ => rfl]
  obtain ⟨r1, h1, h2, h3⟩ := h d hd
  exact ⟨r1, h1, rfl, fun _ => h2, h3⟩
end DL

namespace K06
open PySem PySem.Spec L2 DL
def top (i : Nat) : Stmt := PySem.Challenge.pw_endonce_k06_closed_histories.main.body.getD i (.Pass ⟨0, 0, 0, 0⟩)
structure Sems where
  tupled : FSem
  script_of : FSem
  is_closed : FSem
  law_take : FSem
  law_mixed : FSem
  law_lists : FSem
  law_same : FSem
  law_box : FNew
  law_pairs : FSem
  law_shut : FSem
  law_right : FSem
  law : FSem
abbrev io_tupled : List Nat := [0]
def b_tupled (S : Sems) : SS := (sSeq (sRet (mIf (mTru (.ex (mIsi (.sl 0) (isT2 "list" "tuple")))) (mCall true [(.ex (listOf (nLc (iData (.sl 0)) (.nm 1) tTrue (mFn S.tupled [(.sl 1)]))))] fTuple) (rVar io_tupled 0))) sNext)
abbrev io_script_of : List Nat := [0]
def b_script_of (S : Sems) : SS := (sSeq (sRet (mCall true [(.ex (listOf (nLc (iData (.ex (mFn S.tupled [(.sl 0)]))) (.tup (.cons (.nm 1) (.cons (.nm 2) .nil))) tTrue (mVar 1))))] fTuple)) sNext)
abbrev io_is_closed : List Nat := [0]
def b_is_closed (S : Sems) : SS := (sSeq (sSet 1 (mFn S.tupled [(.sl 0)])) (sSeq (sSet 2 (mCall true [(.sl 1)] fLen)) (sSeq (whileL (tAndM (tBin true (.sl 2) (.ex (mCst (.int 0))) fGt) (tBin true (.ex (mBin true (.ex (mBin true (.ex (mBin true (.sl 1) (.ex (mBin false (.sl 2) (.ex (mCst (.int 1))) fSub)) fIx)) (.ex (mCst (.int 0))) fIx)) (.ex (mCst (.int 0))) fIx)) (.ex (mCst (.str (Str.ofString "reap")))) fEq)) (sSeq (sAug 2 (mCst (.int 1)) gSub) sNext) 100000) (sSeq (sSet 3 (listOf (nLc (iData (.ex (mCut (.sl 1) (some (mVar 2)) none))) (.tup (.cons (.nm 4) (.cons (.nm 5) .nil))) tTrue (mVar 5)))) (sSeq (sIf (tOrM (tBin true (.sl 2) (.ex (mCst (.int 0))) fEq) (tOrM (tBin true (.ex (mBin true (.ex (mBin true (.ex (mBin true (.sl 1) (.ex (mBin false (.sl 2) (.ex (mCst (.int 1))) fSub)) fIx)) (.ex (mCst (.int 0))) fIx)) (.ex (mCst (.int 0))) fIx)) (.ex (mCst (.str (Str.ofString "quiet")))) fNe) (tBin true (.ex (mCall true [(.sl 3)] fLen)) (.ex (mCst (.int 0))) fEq))) (sSeq (sRet (mCst (.bool false))) sNext) sNext) (sSeq (sRet (mAnd (mBin true (.ex (mBin true (.sl 3) (.ex (mNeg (mCst (.int 1)))) fIx)) (.ex (mTup aNil)) fEq) (mCall true [(.ex (listOf (nLc (iData (.ex (mCut (.sl 3) none (some (mNeg (mCst (.int 1))))))) (.nm 5) tTrue (mBin true (.sl 5) (.ex (mTup aNil)) fNe))))] fAll))) sNext))))))
abbrev io_law_take : List Nat := [0, 1]
def b_law_take (S : Sems) : SS := (sSeq (sIf (tBin true (.ex (mBin true (.sl 0) (.ex (mCst (.int 0))) fIx)) (.ex (mCst (.int 0))) fGt) (sSeq (sSet 2 (mBin false (.ex (mCall true [(.ex (mBin true (.sl 0) (.ex (mCst (.int 0))) fIx))] fInt)) (.sl 1) fMod)) (sSeq (sPut 0 (mCst (.int 0)) (mBin false (.ex (mBin true (.sl 0) (.ex (mCst (.int 0))) fIx)) (.sl 1) fFdiv)) (sSeq (sRet (rVar io_law_take 2)) sNext))) sNext) (sSeq (sPut 0 (mCst (.int 2)) (mBin false (.ex (mBin true (.sl 0) (.ex (mCst (.int 2))) fIx)) (.ex (mCst (.int 1))) fAdd)) (sSeq (sSet 3 (mBin false (.ex (mCall true [(.ex (mBin false (.ex (mBin false (.ex (mBin true (.sl 0) (.ex (mCst (.int 1))) fIx)) (.ex (mBin false (.ex (mCst (.int 48271))) (.ex (mBin true (.sl 0) (.ex (mCst (.int 2))) fIx)) fMul)) fAdd)) (.ex (mBin false (.ex (mCst (.int 39373))) (.ex (mBin true (.sl 0) (.ex (mCst (.int 2))) fIx)) fAdd)) fMul))] fInt)) (.ex (mCst (.int 2147483647))) fMod)) (sSeq (sSet 4 (mBin false (.ex (mBin false (.ex (mCall true [(.sl 3)] fInt)) (.ex (mCst (.int 40009))) fMod)) (.ex (mCst (.int 7))) fAdd)) (sSeq (sSet 5 (mBin false (.ex (mCall true [(.ex (mBin false (.ex (mBin false (.ex (mBin false (.sl 3) (.ex (mBin true (.sl 0) (.ex (mCst (.int 2))) fIx)) fAdd)) (.ex (mBin false (.ex (mBin true (.sl 0) (.ex (mCst (.int 1))) fIx)) (.ex (mCst (.int 1000003))) fFdiv)) fAdd)) (.sl 4) fMul))] fInt)) (.ex (mCst (.int 2147483629))) fMod)) (sSeq (sRet (mBin false (.ex (mCall true [(.ex (mBin false (.ex (mBin false (.ex (mCall true [(.ex (mBin false (.ex (mBin false (.sl 5) (.ex (mCst (.int 48271))) fMul)) (.sl 3) fAdd))] fInt)) (.ex (mCst (.int 2147483587))) fMod)) (.ex (mCst (.int 64))) fFdiv))] fInt)) (.sl 1) fMod)) sNext))))))
abbrev io_law_mixed : List Nat := [0, 1]
def b_law_mixed (S : Sems) : SS := (sSeq (sIf (mNot (mTru (.ex (mIsi (.sl 1) (isT2 "list" "tuple"))))) (sSeq (sRet (rVar io_law_mixed 1)) sNext) sNext) (sSeq (sSet 2 (listOf (nLc (iData (.sl 1)) (.nm 3) tTrue (mFn S.law_mixed [(.sl 0), (.sl 3)])))) (sSeq (sRet (mIf (tBin true (.ex (mFn S.law_take [(.sl 0), (.ex (mCst (.int 2)))])) (.ex (mCst (.int 0))) fEq) (rVar io_law_mixed 2) (mCall true [(.sl 2)] fTuple))) sNext)))
abbrev io_law_lists : List Nat := [0]
def b_law_lists (S : Sems) : SS := (sSeq (sRet (mIf (mTru (.ex (mIsi (.sl 0) (isT2 "list" "tuple")))) (listOf (nLc (iData (.sl 0)) (.nm 1) tTrue (mFn S.law_lists [(.sl 1)]))) (rVar io_law_lists 0))) sNext)
abbrev io_law_same : List Nat := [0, 1]
def b_law_same (S : Sems) : SS := (sSeq (sIf (mTru (.ex (mIsi (.sl 1) (isT2 "list" "tuple")))) (sSeq (sIf (tOrM (tBin true (.ex (mIsi (.sl 0) fun d => isT d "list")) (.ex (mIsi (.sl 1) fun d => isT d "list")) fNe) (tBin true (.ex (mIsi (.sl 0) fun d => isT d "tuple")) (.ex (mIsi (.sl 1) fun d => isT d "tuple")) fNe)) (sSeq (sRet (mCst (.bool false))) sNext) sNext) (sSeq (sRet (mAnd (mBin true (.ex (mCall true [(.sl 0)] fLen)) (.ex (mCall true [(.sl 1)] fLen)) fEq) (mCall true [(.ex (listOf (nLc (iZip (.sl 0) (.sl 1)) (.tup (.cons (.nm 3) (.cons (.nm 4) .nil))) tTrue (mFn S.law_same [(.sl 3), (.sl 4)]))))] fAll))) sNext)) sNext) (sSeq (sIf (tOrM (tBin true (.sl 1) (.ex (mCst .none)) fIs) (mTru (.ex (mIsi (.sl 1) (isT2 "bool" "str"))))) (sSeq (sSet 2 (mAnd (mBin true (.ex (mIsi (.sl 0) fun d => isT d "bool")) (.ex (mIsi (.sl 1) fun d => isT d "bool")) fEq) (mBin true (.ex (mBin true (.sl 0) (.ex (mCst .none)) fIs)) (.ex (mBin true (.sl 1) (.ex (mCst .none)) fIs)) fEq))) (sSeq (sRet (mAnd (mBin true (.sl 0) (.sl 1) fEq) (mVar 2))) sNext)) sNext) (sSeq (sRet (mAnd (mIsi (.sl 0) fun d => isT d "int") (mAnd (mNotV (mIsi (.sl 0) fun d => isT d "bool")) (mBin true (.sl 0) (.sl 1) fEq)))) sNext)))
abbrev io_law_box : List Nat := [0, 1]
def b_law_box (S : Sems) : SS := (sSeq (sSet 2 (mIf (tBin true (.sl 1) (.ex (mCall true [(.sl 0)] fLen)) fLt) (mBin true (.sl 0) (.sl 1) fIx) (mCst (.int 0)))) (sSeq (sRetN (nLst (aCons (mBin false (.ex (mCall true [(.sl 2)] fAbs)) (.ex (mCall true [(.ex (mBin true (.ex (mCall true [(.sl 2)] fAbs)) (.ex (mBin false (.ex (mCst (.int 10))) (.ex (mCst (.int 18))) fPow)) fGe))] fInt)) fMul) (aCons (mBin false (.ex (mBin false (.ex (mBin false (.ex (mCall true [(.sl 2)] fInt)) (.ex (mCst (.int 2305843009213693951))) fMod)) (.ex (mBin false (.ex (mCst (.int 39373))) (.sl 1) fMul)) fAdd)) (.ex (mCst (.int 71))) fAdd) (aCons (mCst (.int 0)) aNil))))) sNext))
abbrev io_law_pairs : List Nat := [0, 1]
def b_law_pairs (S : Sems) : SS := (sSeq (sOwn 2 (nLst (aCons (mTup (aCons (mTup (aCons (mCst (.str (Str.ofString "put"))) (aCons (mCall true [(.ex (listOf (nLc (iData (.ex (mCst (.str (Str.ofString "abcdefghij"))))) (.nm 7) tTrue (mTup (aCons (mVar 7) (aCons (mTup (aCons (mCst (.str (Str.ofString "nop"))) aNil)) (aCons (mTup aNil) aNil)))))))] fTuple) aNil))) (aCons (mCst .none) aNil))) aNil))) (sSeq (sSet 3 (listOf (nLc (iData (.ex (mCst (.str (Str.ofString "abcdefghij"))))) (.nm 7) tTrue (mTup (aCons (mVar 7) (aCons (mTup (aCons (mCst (.str (Str.ofString "done"))) aNil)) (aCons (mCst .none) (aCons (mCst (.bool false)) (aCons (mCst (.bool false)) aNil))))))))) (sSeq (sFor (iRange1 (mFn S.law_take [(.sl 0), (.ex (mBin false (.sl 1) (.ex (mCst (.int 1))) fAdd))])) (.nm 4) (sSeq (sSet 5 (mFn S.law_take [(.sl 0), (.ex (mCst (.int 9)))])) (sSeq (sIf (tBin true (.sl 5) (.ex (mCst (.int 2))) fLt) (sSeq (sExpr (mAppend 2 (mTup (aCons (mTup (aCons (mCst (.str (Str.ofString "quiet"))) aNil)) (aCons (mTup aNil) aNil))))) sNext) (sSeq (sIf (tBin true (.sl 5) (.ex (mCst (.int 2))) fEq) (sSeq (sExpr (mAppend 2 (mTup (aCons (mTup (aCons (mCst (.str (Str.ofString "lend"))) (aCons (mBin false (.ex (mCst (.int 1))) (.sl 5) fAdd) aNil))) (aCons (mCst .none) aNil))))) sNext) (sSeq (sSet 6 (mIf (tBin true (.sl 5) (.ex (mCst (.int 6))) fLt) (mCall true [(.ex (mCut (.sl 3) none (some (mFn S.law_take [(.sl 0), (.ex (mCst (.int 3)))]))))] fTuple) (mTup aNil))) (sSeq (sSet 3 (mCut (.sl 3) (some (mCall true [(.sl 6)] fLen)) none)) (sSeq (sExpr (mAppend 2 (mTup (aCons (mTup (aCons (mCst (.str (Str.ofString "reap"))) (aCons (mBin false (.ex (mCst (.int 1))) (.sl 5) fAdd) aNil))) (aCons (mVar 6) aNil))))) sNext)))) sNext)) sNext))) (sSeq (sRet (mCall true [(.sl 2)] fTuple)) sNext))))
abbrev io_law_shut : List Nat := [0]
def b_law_shut (S : Sems) : SS := (sSeq (sSet 1 (listOf (nLc (iData (.sl 0)) (.nm 3) tTrue (mBin true (.ex (mBin true (.sl 3) (.ex (mCst (.int 0))) fIx)) (.ex (mCst (.int 0))) fIx)))) (sSeq (sIf (tBin true (.ex (mCst (.str (Str.ofString "quiet")))) (.sl 1) fNotIn) (sSeq (sRet (mCst (.bool false))) sNext) sNext) (sSeq (sSet 2 (mCut (.sl 0) (some (mBin false (.ex (mCall true [(.sl 1)] fLen)) (.ex (mIndex (mRev (.sl 1)) (mCst (.str (Str.ofString "quiet"))))) fSub)) none)) (sSeq (sIf (tOrM (tBin true (.sl 2) (.ex (mTup aNil)) fEq) (tBin true (.ex (listOf (nLc (iData (.sl 2)) (.nm 3) (tBin true (.ex (mBin true (.ex (mBin true (.sl 3) (.ex (mCst (.int 0))) fIx)) (.ex (mCst (.int 0))) fIx)) (.ex (mCst (.str (Str.ofString "reap")))) fNe) (mVar 3)))) (.ex (listOf (nLst aNil))) fNe)) (sSeq (sRet (mCst (.bool false))) sNext) sNext) (sSeq (sRet (mBin true (.ex (listOf (nLc (iEnum2 (.sl 2)) (.tup (.cons (.nm 4) (.cons (.nm 3) .nil))) (tBin true (.ex (mBin true (.sl 3) (.ex (mCst (.int 1))) fIx)) (.ex (mTup aNil)) fEq) (mVar 4)))) (.ex (listOf (nLst (aCons (mBin false (.ex (mCall true [(.sl 2)] fLen)) (.ex (mCst (.int 1))) fSub) aNil)))) fEq)) sNext)))))
abbrev io_law_right : List Nat := [0]
def b_law_right (S : Sems) : SS := (sSeq (sFor (iRange1 (mCst (.int 10))) (.nm 1) (sSeq (sSet 2 (mFn S.law_pairs [(.sl 0), (.ex (mCst (.int 9)))])) (sSeq (sSet 2 (mIf (tBin true (.ex (mBin false (.ex (mCall true [(.sl 1)] fInt)) (.ex (mCst (.int 3))) fMod)) (.ex (mCst (.int 0))) fEq) (mBin false (.sl 2) (.ex (mTup (aCons (mTup (aCons (mTup (aCons (mCst (.str (Str.ofString "quiet"))) aNil)) (aCons (mTup aNil) aNil))) (aCons (mTup (aCons (mTup (aCons (mCst (.str (Str.ofString "reap"))) (aCons (mCst (.int 1)) aNil))) (aCons (mTup aNil) aNil))) aNil)))) fAdd) (mVar 2))) (sSeq (sPar [3, 4, 5] [.d (mFn S.law_mixed [(.sl 0), (.sl 2)]), .d (mFn S.law_shut [(.sl 2)]), .d (mCall true [(.sl 2)] fRepr)]) (sSeq (sSet 6 (listOf (nLst (aCons (mFn S.is_closed [(.sl 2)]) (aCons (mFn S.is_closed [(.ex (mFn S.law_lists [(.sl 2)]))]) (aCons (mFn S.is_closed [(.sl 3)]) aNil)))))) (sSeq (sIf (tOrM (mNot (mTru (.ex (mFn S.law_same [(.sl 6), (.ex (mBin false (.ex (listOf (nLst (aCons (mVar 4) aNil)))) (.ex (mCst (.int 3))) fMul))])))) (tBin true (.ex (mCall true [(.sl 2)] fRepr)) (.sl 5) fNe)) (sSeq (sRet (mCst (.bool false))) sNext) sNext) (sSeq (sSet 7 (mCall true [(.ex (listOf (nLc (iData (.sl 2)) (.nm 8) tTrue (mBin true (.sl 8) (.ex (mCst (.int 0))) fIx))))] fTuple)) (sSeq (sIf (mNot (mTru (.ex (mFn S.law_same [(.ex (listOf (nLst (aCons (mFn S.script_of [(.sl 2)]) (aCons (mFn S.script_of [(.sl 3)]) aNil))))), (.ex (listOf (nLst (aCons (mVar 7) (aCons (mVar 7) aNil)))))])))) (sSeq (sRet (mCst (.bool false))) sNext) sNext) sNext)))))))) (sSeq (sRet (mFn S.law_same [(.ex (listOf (nLst (aCons (mFn S.is_closed [(.ex (mTup aNil))]) (aCons (mFn S.script_of [(.ex (mTup aNil))]) aNil))))), (.ex (listOf (nLst (aCons (mCst (.bool false)) (aCons (mTup aNil) aNil)))))])) sNext))
abbrev io_law : List Nat := [0]
def b_law (S : Sems) : SS := (sSeq (sFor (iRange1 (mBin false (.ex (mCst (.int 1))) (.ex (mCall true [(.ex (mCst (.int 3))), (.ex (mCall true [(.sl 0)] fLen))] fMin)) fAdd)) (.nm 1) (sSeq (sOwn 2 (nFn S.law_box [(.sl 0), (.sl 1)])) (sSeq (sIf (mNot (mTru (.ex (mCall true [(.ex (listOf (nLc (iRange1 (mCst (.int 2))) (.nm 3) tTrue (mFn S.law_right [(.sl 2)]))))] fAll)))) (sSeq (sRet (mCst (.bool false))) sNext) sNext) sNext))) (sSeq (sRet (mCst (.bool true))) sNext))
def sems : Nat → Sems
  | 0 => ⟨fun _ => none, fun _ => none, fun _ => none, fun _ => none, fun _ => none, fun _ => none, fun _ => none, fun _ => none, fun _ => none, fun _ => none, fun _ => none, fun _ => none⟩
  | k + 1 => ⟨runF 2 io_tupled (b_tupled (sems k)), runF 3 io_script_of (b_script_of (sems k)), runF 6 io_is_closed (b_is_closed (sems k)), runF 6 io_law_take (b_law_take (sems k)), runF 4 io_law_mixed (b_law_mixed (sems k)), runF 2 io_law_lists (b_law_lists (sems k)), runF 5 io_law_same (b_law_same (sems k)), runN 3 io_law_box (b_law_box (sems k)), runF 8 io_law_pairs (b_law_pairs (sems k)), runF 5 io_law_shut (b_law_shut (sems k)), runF 9 io_law_right (b_law_right (sems k)), runF 4 io_law (b_law (sems k))⟩
theorem sems_tupled (k : Nat) : (sems (k + 1)).tupled = runF 2 io_tupled (b_tupled (sems k)) := rfl
theorem sems_script_of (k : Nat) : (sems (k + 1)).script_of = runF 3 io_script_of (b_script_of (sems k)) := rfl
theorem sems_is_closed (k : Nat) : (sems (k + 1)).is_closed = runF 6 io_is_closed (b_is_closed (sems k)) := rfl
theorem sems_law_take (k : Nat) : (sems (k + 1)).law_take = runF 6 io_law_take (b_law_take (sems k)) := rfl
theorem sems_law_mixed (k : Nat) : (sems (k + 1)).law_mixed = runF 4 io_law_mixed (b_law_mixed (sems k)) := rfl
theorem sems_law_lists (k : Nat) : (sems (k + 1)).law_lists = runF 2 io_law_lists (b_law_lists (sems k)) := rfl
theorem sems_law_same (k : Nat) : (sems (k + 1)).law_same = runF 5 io_law_same (b_law_same (sems k)) := rfl
theorem sems_law_box (k : Nat) : (sems (k + 1)).law_box = runN 3 io_law_box (b_law_box (sems k)) := rfl
theorem sems_law_pairs (k : Nat) : (sems (k + 1)).law_pairs = runF 8 io_law_pairs (b_law_pairs (sems k)) := rfl
theorem sems_law_shut (k : Nat) : (sems (k + 1)).law_shut = runF 5 io_law_shut (b_law_shut (sems k)) := rfl
theorem sems_law_right (k : Nat) : (sems (k + 1)).law_right = runF 9 io_law_right (b_law_right (sems k)) := rfl
theorem sems_law (k : Nat) : (sems (k + 1)).law = runF 4 io_law (b_law (sems k)) := rfl
structure Tab (K : PySem.W.Frag) (mg : Str → Option Value) where
  f_tupled : Addr
  d_tupled : FuncData
  F_tupled : Fun K "tupled" "tupled" (top 1) f_tupled d_tupled
  b_tupled : Binds K d_tupled ["value"] []
  m_tupled : mg "tupled" = some (.ref f_tupled)
  f_script_of : Addr
  d_script_of : FuncData
  F_script_of : Fun K "script_of" "script_of" (top 3) f_script_of d_script_of
  b_script_of : Binds K d_script_of ["history"] []
  m_script_of : mg "script_of" = some (.ref f_script_of)
  k_script_of : ∀ (s : Shared) (u : Value), K.In s.heap → BindsTo s d_script_of ⟨[], [("history", u)]⟩ [("history", u)]
  f_is_closed : Addr
  d_is_closed : FuncData
  F_is_closed : Fun K "is_closed" "is_closed" (top 4) f_is_closed d_is_closed
  b_is_closed : Binds K d_is_closed ["history"] []
  m_is_closed : mg "is_closed" = some (.ref f_is_closed)
  k_is_closed : ∀ (s : Shared) (u : Value), K.In s.heap → BindsTo s d_is_closed ⟨[], [("history", u)]⟩ [("history", u)]
  f_law_take : Addr
  d_law_take : FuncData
  F_law_take : Fun K "_law_take" "_law_take" (top 6) f_law_take d_law_take
  b_law_take : Binds K d_law_take ["_law_box_here", "_law_below"] []
  m_law_take : mg "_law_take" = some (.ref f_law_take)
  f_law_mixed : Addr
  d_law_mixed : FuncData
  F_law_mixed : Fun K "_law_mixed" "_law_mixed" (top 7) f_law_mixed d_law_mixed
  b_law_mixed : Binds K d_law_mixed ["_law_box_here", "_law_matter"] []
  m_law_mixed : mg "_law_mixed" = some (.ref f_law_mixed)
  f_law_lists : Addr
  d_law_lists : FuncData
  F_law_lists : Fun K "_law_lists" "_law_lists" (top 8) f_law_lists d_law_lists
  b_law_lists : Binds K d_law_lists ["_law_matter"] []
  m_law_lists : mg "_law_lists" = some (.ref f_law_lists)
  f_law_same : Addr
  d_law_same : FuncData
  F_law_same : Fun K "_law_same" "_law_same" (top 9) f_law_same d_law_same
  b_law_same : Binds K d_law_same ["_law_found", "_law_due"] []
  m_law_same : mg "_law_same" = some (.ref f_law_same)
  f_law_box : Addr
  d_law_box : FuncData
  F_law_box : Fun K "_law_box" "_law_box" (top 10) f_law_box d_law_box
  b_law_box : Binds K d_law_box ["_law_script", "_law_k"] []
  m_law_box : mg "_law_box" = some (.ref f_law_box)
  f_law_pairs : Addr
  d_law_pairs : FuncData
  F_law_pairs : Fun K "_law_pairs" "_law_pairs" (top 11) f_law_pairs d_law_pairs
  b_law_pairs : Binds K d_law_pairs ["_law_box_here", "_law_many_so"] []
  m_law_pairs : mg "_law_pairs" = some (.ref f_law_pairs)
  f_law_shut : Addr
  d_law_shut : FuncData
  F_law_shut : Fun K "_law_shut" "_law_shut" (top 12) f_law_shut d_law_shut
  b_law_shut : Binds K d_law_shut ["_law_pairs_so"] []
  m_law_shut : mg "_law_shut" = some (.ref f_law_shut)
  f_law_right : Addr
  d_law_right : FuncData
  F_law_right : Fun K "_law_right" "_law_right" (top 13) f_law_right d_law_right
  b_law_right : Binds K d_law_right ["_law_box_here"] []
  m_law_right : mg "_law_right" = some (.ref f_law_right)
  f_law : Addr
  d_law : FuncData
  F_law : Fun K "law" "law" (top 14) f_law d_law
  b_law : Binds K d_law ["_law_script"] []
  m_law : mg "law" = some (.ref f_law)
  z_abs : mg "abs" = none
  z_all : mg "all" = none
  z_bool : mg "bool" = none
  z_enumerate : mg "enumerate" = none
  z_int : mg "int" = none
  z_isinstance : mg "isinstance" = none
  z_len : mg "len" = none
  z_list : mg "list" = none
  z_min : mg "min" = none
  z_range : mg "range" = none
  z_repr : mg "repr" = none
  z_str : mg "str" = none
  z_tuple : mg "tuple" = none
  z_zip : mg "zip" = none
structure Good (P : Program) (w : World) (K : PySem.W.Frag) (mg : Str → Option Value) (base : Heap) (T : Tab K mg) (k : Nat) (S : Sems) : Prop where
  tupled : FnG P w K mg base k T.f_tupled T.d_tupled ["value"] S.tupled
  script_of : FnG P w K mg base k T.f_script_of T.d_script_of ["history"] S.script_of
  is_closed : FnG P w K mg base k T.f_is_closed T.d_is_closed ["history"] S.is_closed
  law_take : FnG P w K mg base k T.f_law_take T.d_law_take ["_law_box_here", "_law_below"] S.law_take
  law_mixed : FnG P w K mg base k T.f_law_mixed T.d_law_mixed ["_law_box_here", "_law_matter"] S.law_mixed
  law_lists : FnG P w K mg base k T.f_law_lists T.d_law_lists ["_law_matter"] S.law_lists
  law_same : FnG P w K mg base k T.f_law_same T.d_law_same ["_law_found", "_law_due"] S.law_same
  law_box : FnN P w K mg base k T.f_law_box T.d_law_box ["_law_script", "_law_k"] S.law_box
  law_pairs : FnG P w K mg base k T.f_law_pairs T.d_law_pairs ["_law_box_here", "_law_many_so"] S.law_pairs
  law_shut : FnG P w K mg base k T.f_law_shut T.d_law_shut ["_law_pairs_so"] S.law_shut
  law_right : FnG P w K mg base k T.f_law_right T.d_law_right ["_law_box_here"] S.law_right
  law : FnG P w K mg base k T.f_law T.d_law ["_law_script"] S.law
section
variable {P : Program} {w : World} {K : PySem.W.Frag} {mg : Str → Option Value} {base : Heap} {T : Tab K mg} {k : Nat} {S : Sems}
theorem sc_tupled : FnScope ["value", "part"] ["value"] (defScope (top 1)) := ⟨rfl, rfl, rfl, by decide +kernel, rfl, by decide +kernel, by decide +kernel⟩
theorem ok_tupled (g : Good P w K mg base T k S) : FnG P w K mg base (k + 1) T.f_tupled T.d_tupled ["value"] (runF 2 io_tupled (b_tupled S)) := fnG_of (N := ["value", "part"]) T.F_tupled sc_tupled fun cdv A outer s H hr => by
  have C : Sc (bodyCx P w K mg base ["value", "part"] "tupled" (top 1) T.f_tupled cdv A outer s H) ["value", "part"] (defScope (top 1)) := ⟨rfl, rfl⟩
  exact (okSs_cons (okS_ret (okR_if (okT_tru (okO_ex (okE_isi2 (C.gl (by decide +kernel)) T.z_isinstance (C.o 0 (by decide +kernel)) (C.ty (t := "list") (by decide +kernel) T.z_list (by decide +kernel) (by decide +kernel) (by decide +kernel)) (C.ty (t := "tuple") (by decide +kernel) T.z_tuple (by decide +kernel) (by decide +kernel) (by decide +kernel)) ⟨rfl, rfl⟩)) (fun _ => rfl)) (okR_e (okE_callTy callS_tuple (C.gl (by decide +kernel)) T.z_tuple (by decide +kernel) (okAO_cons (okO_ex (C.lc [("part", 1)] rfl (by decide +kernel) (by decide +kernel) rfl (fun _ => rfl) (okI_data (C.o 0 (by decide +kernel))) (fun s0 H0 C0 cl fp => (C.blk.g 1 (by decide +kernel))) (fun s0 H0 C0 cl fp => okTs_nil) (fun s0 H0 C0 cl fp => (okE_fn (C.blk.df (by decide +kernel) T.m_tupled T.F_tupled.kp T.b_tupled (by decide +kernel)) g.tupled hr ⟨rfl, rfl⟩ rfl (okAO_cons (C.blk.o 1 (by decide +kernel)) okAO_nil rfl) rfl))).dat) okAO_nil rfl) (by decide +kernel) (by decide +kernel) ⟨rfl, rfl⟩)) (C.r 0 (by decide +kernel))))
    okSs_nil)
theorem sc_script_of : FnScope ["history", "event", "told"] ["history"] (defScope (top 3)) := ⟨rfl, rfl, rfl, by decide +kernel, rfl, by decide +kernel, by decide +kernel⟩
theorem ok_script_of (g : Good P w K mg base T k S) : FnG P w K mg base (k + 1) T.f_script_of T.d_script_of ["history"] (runF 3 io_script_of (b_script_of S)) := fnG_of (N := ["history", "event", "told"]) T.F_script_of sc_script_of fun cdv A outer s H hr => by
  have C : Sc (bodyCx P w K mg base ["history", "event", "told"] "script_of" (top 3) T.f_script_of cdv A outer s H) ["history", "event", "told"] (defScope (top 3)) := ⟨rfl, rfl⟩
  exact (okSs_cons (okS_ret (okR_e (okE_callTy callS_tuple (C.gl (by decide +kernel)) T.z_tuple (by decide +kernel) (okAO_cons (okO_ex (C.lc [("event", 1), ("told", 2)] rfl (by decide +kernel) (by decide +kernel) rfl (fun _ => rfl) (okI_data (okO_ex (okE_fn (C.df (by decide +kernel) T.m_tupled T.F_tupled.kp T.b_tupled (by decide +kernel)) g.tupled hr ⟨rfl, rfl⟩ rfl (okAO_cons (C.o 0 (by decide +kernel)) okAO_nil rfl) rfl))) (fun s0 H0 C0 cl fp => (okG_tup rfl (okGs_cons (C.blk.g 1 (by decide +kernel)) (okGs_cons (C.blk.g 2 (by decide +kernel)) okGs_nil rfl) rfl) rfl rfl)) (fun s0 H0 C0 cl fp => okTs_nil) (fun s0 H0 C0 cl fp => (C.blk.v 1 (by decide +kernel)))).dat) okAO_nil rfl) (by decide +kernel) (by decide +kernel) ⟨rfl, rfl⟩)))
    okSs_nil)
theorem sc_is_closed : FnScope ["history", "pairs", "last", "reaps", "event", "told"] ["history"] (defScope (top 4)) := ⟨rfl, rfl, rfl, by decide +kernel, rfl, by decide +kernel, by decide +kernel⟩
theorem ok_is_closed (g : Good P w K mg base T k S) : FnG P w K mg base (k + 1) T.f_is_closed T.d_is_closed ["history"] (runF 6 io_is_closed (b_is_closed S)) := fnG_of (N := ["history", "pairs", "last", "reaps", "event", "told"]) T.F_is_closed sc_is_closed fun cdv A outer s H hr => by
  have C : Sc (bodyCx P w K mg base ["history", "pairs", "last", "reaps", "event", "told"] "is_closed" (top 4) T.f_is_closed cdv A outer s H) ["history", "pairs", "last", "reaps", "event", "told"] (defScope (top 4)) := ⟨rfl, rfl⟩
  exact (okSs_cons (C.set 1 (by decide +kernel) (by decide +kernel) (okE_fn (C.df (by decide +kernel) T.m_tupled T.F_tupled.kp T.b_tupled (by decide +kernel)) g.tupled hr ⟨rfl, rfl⟩ rfl (okAO_cons (C.o 0 (by decide +kernel)) okAO_nil rfl) rfl) rfl)
    (okSs_cons (C.set 2 (by decide +kernel) (by decide +kernel) (okE_callB callS_len (C.gl (by decide +kernel)) T.z_len (by decide +kernel) (okAO_cons (C.o 1 (by decide +kernel)) okAO_nil rfl) (by decide +kernel) (by decide +kernel) ⟨rfl, rfl⟩) rfl)
    (okSs_cons (okS_while 100000 PassesOwn.never (OkW.t (okW_and (okT_cmp opS_gt (C.o 2 (by decide +kernel)) (okO_ex okE_int) (nomark _)) (okW_and1 (okT_cmp (opS_eq (Room.un64 hr)) (okO_ex (okE_ix (okO_ex (okE_ix (okO_ex (okE_ix (C.o 1 (by decide +kernel)) (okO_ex (okE_bin opS_sub (C.o 2 (by decide +kernel)) (okO_ex okE_int))) (fun _ _ => rfl))) (okO_ex okE_int) (fun _ _ => rfl))) (okO_ex okE_int) (fun _ _ => rfl))) (okO_ex (okE_str (by decide +kernel))) (nomark _))))) (okSs_cons (C.aug 2 (by decide +kernel) (by decide +kernel) inS_sub okE_int)
    okSs_nil))
    (okSs_cons (C.setLc 3 [("event", 4), ("told", 5)] (by decide +kernel) rfl (by decide +kernel) (by decide +kernel) (by decide +kernel) rfl (fun _ => rfl) (okI_data (okO_ex (okE_cut (C.o 1 (by decide +kernel)) (okP_some (C.v 2 (by decide +kernel))) okP_none))) (fun s0 H0 C0 cl fp => (okG_tup rfl (okGs_cons (C.blk.g 4 (by decide +kernel)) (okGs_cons (C.blk.g 5 (by decide +kernel)) okGs_nil rfl) rfl) rfl rfl)) (fun s0 H0 C0 cl fp => okTs_nil) (fun s0 H0 C0 cl fp => (C.blk.v 5 (by decide +kernel))))
    (okSs_cons (okS_if (OkW.t (okW_or (okT_cmp (opS_eq (Room.un64 hr)) (C.o 2 (by decide +kernel)) (okO_ex okE_int) (nomark _)) (okW_or (okT_cmp (opS_ne (Room.un64 hr)) (okO_ex (okE_ix (okO_ex (okE_ix (okO_ex (okE_ix (C.o 1 (by decide +kernel)) (okO_ex (okE_bin opS_sub (C.o 2 (by decide +kernel)) (okO_ex okE_int))) (fun _ _ => rfl))) (okO_ex okE_int) (fun _ _ => rfl))) (okO_ex okE_int) (fun _ _ => rfl))) (okO_ex (okE_str (by decide +kernel))) (nomark _)) (okW_or1 (okT_cmp (opS_eq (Room.un64 hr)) (okO_ex (okE_callB callS_len (C.gl (by decide +kernel)) T.z_len (by decide +kernel) (okAO_cons (C.o 3 (by decide +kernel)) okAO_nil rfl) (by decide +kernel) (by decide +kernel) ⟨rfl, rfl⟩)) (okO_ex okE_int) (nomark _)))))) (okSs_cons (okS_ret (okR_e okE_bl))
    okSs_nil) okSs_nil)
    (okSs_cons (okS_ret (okR_e (okE_and (okE_cmp (opS_eq (Room.un64 hr)) (okO_ex (okE_ix (C.o 3 (by decide +kernel)) (okO_ex (okE_neg okE_int)) (fun _ _ => rfl))) (okO_ex (okE_tup okA_nil)) (nomark _)) (okE_one (okE_callB (callS_all rfl) (C.gl (by decide +kernel)) T.z_all (by decide +kernel) (okAO_cons (okO_ex (C.lc [("told", 5)] rfl (by decide +kernel) (by decide +kernel) rfl (fun _ => rfl) (okI_data (okO_ex (okE_cut (C.o 3 (by decide +kernel)) okP_none (okP_some (okE_neg okE_int))))) (fun s0 H0 C0 cl fp => (C.blk.g 5 (by decide +kernel))) (fun s0 H0 C0 cl fp => okTs_nil) (fun s0 H0 C0 cl fp => (okE_cmp (opS_ne (Room.un64 hr)) (C.blk.o 5 (by decide +kernel)) (okO_ex (okE_tup okA_nil)) (nomark _)))).dat) okAO_nil rfl) (by decide +kernel) (by decide +kernel) ⟨rfl, rfl⟩)))))
    okSs_nil))))))
theorem sc_law_take : FnScope ["_law_box_here", "_law_below", "_law_found", "_law_once", "_law_odd", "_law_twice"] ["_law_box_here", "_law_below"] (defScope (top 6)) := ⟨rfl, rfl, rfl, by decide +kernel, rfl, by decide +kernel, by decide +kernel⟩
theorem ok_law_take (g : Good P w K mg base T k S) : FnG P w K mg base (k + 1) T.f_law_take T.d_law_take ["_law_box_here", "_law_below"] (runF 6 io_law_take (b_law_take S)) := fnG_of (N := ["_law_box_here", "_law_below", "_law_found", "_law_once", "_law_odd", "_law_twice"]) T.F_law_take sc_law_take fun cdv A outer s H hr => by
  have C : Sc (bodyCx P w K mg base ["_law_box_here", "_law_below", "_law_found", "_law_once", "_law_odd", "_law_twice"] "_law_take" (top 6) T.f_law_take cdv A outer s H) ["_law_box_here", "_law_below", "_law_found", "_law_once", "_law_odd", "_law_twice"] (defScope (top 6)) := ⟨rfl, rfl⟩
  exact (okSs_cons (okS_if (okT_cmp opS_gt (okO_ex (okE_ix (C.o 0 (by decide +kernel)) (okO_ex okE_int) (fun _ _ => rfl))) (okO_ex okE_int) (nomark _)) (okSs_cons (C.set 2 (by decide +kernel) (by decide +kernel) (okE_bin opS_mod (okO_ex (okE_callTy callS_int (C.gl (by decide +kernel)) T.z_int (by decide +kernel) (okAO_cons (okO_ex (okE_ix (C.o 0 (by decide +kernel)) (okO_ex okE_int) (fun _ _ => rfl))) okAO_nil rfl) (by decide +kernel) (by decide +kernel) ⟨rfl, rfl⟩)) (C.o 1 (by decide +kernel))) rfl)
    (okSs_cons (C.put 0 (by decide +kernel) okE_int (okE_bin opS_fdiv (okO_ex (okE_ix (C.o 0 (by decide +kernel)) (okO_ex okE_int) (fun _ _ => rfl))) (C.o 1 (by decide +kernel))) (fun _ => rfl) rfl rfl rfl)
    (okSs_cons (okS_ret (C.r 2 (by decide +kernel)))
    okSs_nil))) okSs_nil)
    (okSs_cons (C.put 0 (by decide +kernel) okE_int (okE_bin opS_add (okO_ex (okE_ix (C.o 0 (by decide +kernel)) (okO_ex okE_int) (fun _ _ => rfl))) (okO_ex okE_int)) (fun _ => rfl) rfl rfl rfl)
    (okSs_cons (C.set 3 (by decide +kernel) (by decide +kernel) (okE_bin opS_mod (okO_ex (okE_callTy callS_int (C.gl (by decide +kernel)) T.z_int (by decide +kernel) (okAO_cons (okO_ex (okE_bin opS_mul (okO_ex (okE_bin opS_add (okO_ex (okE_ix (C.o 0 (by decide +kernel)) (okO_ex okE_int) (fun _ _ => rfl))) (okO_ex (okE_bin opS_mul (okO_ex okE_int) (okO_ex (okE_ix (C.o 0 (by decide +kernel)) (okO_ex okE_int) (fun _ _ => rfl))))))) (okO_ex (okE_bin opS_add (okO_ex okE_int) (okO_ex (okE_ix (C.o 0 (by decide +kernel)) (okO_ex okE_int) (fun _ _ => rfl))))))) okAO_nil rfl) (by decide +kernel) (by decide +kernel) ⟨rfl, rfl⟩)) (okO_ex okE_int)) rfl)
    (okSs_cons (C.set 4 (by decide +kernel) (by decide +kernel) (okE_bin opS_add (okO_ex (okE_bin opS_mod (okO_ex (okE_callTy callS_int (C.gl (by decide +kernel)) T.z_int (by decide +kernel) (okAO_cons (C.o 3 (by decide +kernel)) okAO_nil rfl) (by decide +kernel) (by decide +kernel) ⟨rfl, rfl⟩)) (okO_ex okE_int))) (okO_ex okE_int)) rfl)
    (okSs_cons (C.set 5 (by decide +kernel) (by decide +kernel) (okE_bin opS_mod (okO_ex (okE_callTy callS_int (C.gl (by decide +kernel)) T.z_int (by decide +kernel) (okAO_cons (okO_ex (okE_bin opS_mul (okO_ex (okE_bin opS_add (okO_ex (okE_bin opS_add (C.o 3 (by decide +kernel)) (okO_ex (okE_ix (C.o 0 (by decide +kernel)) (okO_ex okE_int) (fun _ _ => rfl))))) (okO_ex (okE_bin opS_fdiv (okO_ex (okE_ix (C.o 0 (by decide +kernel)) (okO_ex okE_int) (fun _ _ => rfl))) (okO_ex okE_int))))) (C.o 4 (by decide +kernel)))) okAO_nil rfl) (by decide +kernel) (by decide +kernel) ⟨rfl, rfl⟩)) (okO_ex okE_int)) rfl)
    (okSs_cons (okS_ret (okR_e (okE_bin opS_mod (okO_ex (okE_callTy callS_int (C.gl (by decide +kernel)) T.z_int (by decide +kernel) (okAO_cons (okO_ex (okE_bin opS_fdiv (okO_ex (okE_bin opS_mod (okO_ex (okE_callTy callS_int (C.gl (by decide +kernel)) T.z_int (by decide +kernel) (okAO_cons (okO_ex (okE_bin opS_add (okO_ex (okE_bin opS_mul (C.o 5 (by decide +kernel)) (okO_ex okE_int))) (C.o 3 (by decide +kernel)))) okAO_nil rfl) (by decide +kernel) (by decide +kernel) ⟨rfl, rfl⟩)) (okO_ex okE_int))) (okO_ex okE_int))) okAO_nil rfl) (by decide +kernel) (by decide +kernel) ⟨rfl, rfl⟩)) (C.o 1 (by decide +kernel)))))
    okSs_nil))))))
theorem sc_law_mixed : FnScope ["_law_box_here", "_law_matter", "_law_some", "_law_bit"] ["_law_box_here", "_law_matter"] (defScope (top 7)) := ⟨rfl, rfl, rfl, by decide +kernel, rfl, by decide +kernel, by decide +kernel⟩
theorem ok_law_mixed (g : Good P w K mg base T k S) : FnG P w K mg base (k + 1) T.f_law_mixed T.d_law_mixed ["_law_box_here", "_law_matter"] (runF 4 io_law_mixed (b_law_mixed S)) := fnG_of (N := ["_law_box_here", "_law_matter", "_law_some", "_law_bit"]) T.F_law_mixed sc_law_mixed fun cdv A outer s H hr => by
  have C : Sc (bodyCx P w K mg base ["_law_box_here", "_law_matter", "_law_some", "_law_bit"] "_law_mixed" (top 7) T.f_law_mixed cdv A outer s H) ["_law_box_here", "_law_matter", "_law_some", "_law_bit"] (defScope (top 7)) := ⟨rfl, rfl⟩
  exact (okSs_cons (okS_if (okT_not (okT_tru (okO_ex (okE_isi2 (C.gl (by decide +kernel)) T.z_isinstance (C.o 1 (by decide +kernel)) (C.ty (t := "list") (by decide +kernel) T.z_list (by decide +kernel) (by decide +kernel) (by decide +kernel)) (C.ty (t := "tuple") (by decide +kernel) T.z_tuple (by decide +kernel) (by decide +kernel) (by decide +kernel)) ⟨rfl, rfl⟩)) (fun _ => rfl))) (okSs_cons (okS_ret (C.r 1 (by decide +kernel)))
    okSs_nil) okSs_nil)
    (okSs_cons (C.setLc 2 [("_law_bit", 3)] (by decide +kernel) rfl (by decide +kernel) (by decide +kernel) (by decide +kernel) rfl (fun _ => rfl) (okI_data (C.o 1 (by decide +kernel))) (fun s0 H0 C0 cl fp => (C.blk.g 3 (by decide +kernel))) (fun s0 H0 C0 cl fp => okTs_nil) (fun s0 H0 C0 cl fp => (okE_fn (C.blk.df (by decide +kernel) T.m_law_mixed T.F_law_mixed.kp T.b_law_mixed (by decide +kernel)) g.law_mixed hr ⟨rfl, rfl⟩ rfl (okAO_cons (C.blk.o 0 (by decide +kernel)) (okAO_cons (C.blk.o 3 (by decide +kernel)) okAO_nil rfl) rfl) rfl)))
    (okSs_cons (okS_ret (okR_if (okT_cmp (opS_eq (Room.un64 hr)) (okO_ex (okE_fn (C.df (by decide +kernel) T.m_law_take T.F_law_take.kp T.b_law_take (by decide +kernel)) g.law_take hr ⟨rfl, rfl⟩ rfl (okAO_cons (C.o 0 (by decide +kernel)) (okAO_cons (okO_ex okE_int) okAO_nil rfl) rfl) rfl)) (okO_ex okE_int) (nomark _)) (C.r 2 (by decide +kernel)) (okR_e (okE_callTy callS_tuple (C.gl (by decide +kernel)) T.z_tuple (by decide +kernel) (okAO_cons (C.o 2 (by decide +kernel)) okAO_nil rfl) (by decide +kernel) (by decide +kernel) ⟨rfl, rfl⟩))))
    okSs_nil)))
theorem sc_law_lists : FnScope ["_law_matter", "_law_bit"] ["_law_matter"] (defScope (top 8)) := ⟨rfl, rfl, rfl, by decide +kernel, rfl, by decide +kernel, by decide +kernel⟩
theorem ok_law_lists (g : Good P w K mg base T k S) : FnG P w K mg base (k + 1) T.f_law_lists T.d_law_lists ["_law_matter"] (runF 2 io_law_lists (b_law_lists S)) := fnG_of (N := ["_law_matter", "_law_bit"]) T.F_law_lists sc_law_lists fun cdv A outer s H hr => by
  have C : Sc (bodyCx P w K mg base ["_law_matter", "_law_bit"] "_law_lists" (top 8) T.f_law_lists cdv A outer s H) ["_law_matter", "_law_bit"] (defScope (top 8)) := ⟨rfl, rfl⟩
  exact (okSs_cons (okS_ret (okR_if (okT_tru (okO_ex (okE_isi2 (C.gl (by decide +kernel)) T.z_isinstance (C.o 0 (by decide +kernel)) (C.ty (t := "list") (by decide +kernel) T.z_list (by decide +kernel) (by decide +kernel) (by decide +kernel)) (C.ty (t := "tuple") (by decide +kernel) T.z_tuple (by decide +kernel) (by decide +kernel) (by decide +kernel)) ⟨rfl, rfl⟩)) (fun _ => rfl)) (okR_e (C.lc [("_law_bit", 1)] rfl (by decide +kernel) (by decide +kernel) rfl (fun _ => rfl) (okI_data (C.o 0 (by decide +kernel))) (fun s0 H0 C0 cl fp => (C.blk.g 1 (by decide +kernel))) (fun s0 H0 C0 cl fp => okTs_nil) (fun s0 H0 C0 cl fp => (okE_fn (C.blk.df (by decide +kernel) T.m_law_lists T.F_law_lists.kp T.b_law_lists (by decide +kernel)) g.law_lists hr ⟨rfl, rfl⟩ rfl (okAO_cons (C.blk.o 1 (by decide +kernel)) okAO_nil rfl) rfl))).dat) (C.r 0 (by decide +kernel))))
    okSs_nil)
theorem sc_law_same : FnScope ["_law_found", "_law_due", "_law_alike", "_law_mine", "_law_its"] ["_law_found", "_law_due"] (defScope (top 9)) := ⟨rfl, rfl, rfl, by decide +kernel, rfl, by decide +kernel, by decide +kernel⟩
theorem ok_law_same (g : Good P w K mg base T k S) : FnG P w K mg base (k + 1) T.f_law_same T.d_law_same ["_law_found", "_law_due"] (runF 5 io_law_same (b_law_same S)) := fnG_of (N := ["_law_found", "_law_due", "_law_alike", "_law_mine", "_law_its"]) T.F_law_same sc_law_same fun cdv A outer s H hr => by
  have C : Sc (bodyCx P w K mg base ["_law_found", "_law_due", "_law_alike", "_law_mine", "_law_its"] "_law_same" (top 9) T.f_law_same cdv A outer s H) ["_law_found", "_law_due", "_law_alike", "_law_mine", "_law_its"] (defScope (top 9)) := ⟨rfl, rfl⟩
  exact (okSs_cons (okS_if (okT_tru (okO_ex (okE_isi2 (C.gl (by decide +kernel)) T.z_isinstance (C.o 1 (by decide +kernel)) (C.ty (t := "list") (by decide +kernel) T.z_list (by decide +kernel) (by decide +kernel) (by decide +kernel)) (C.ty (t := "tuple") (by decide +kernel) T.z_tuple (by decide +kernel) (by decide +kernel) (by decide +kernel)) ⟨rfl, rfl⟩)) (fun _ => rfl)) (okSs_cons (okS_if (OkW.t (okW_or (okT_cmp (opS_ne (Room.un64 hr)) (okO_ex (okE_isi1 (C.gl (by decide +kernel)) T.z_isinstance (C.o 0 (by decide +kernel)) (C.ty (t := "list") (by decide +kernel) T.z_list (by decide +kernel) (by decide +kernel) (by decide +kernel)) ⟨rfl, rfl⟩)) (okO_ex (okE_isi1 (C.gl (by decide +kernel)) T.z_isinstance (C.o 1 (by decide +kernel)) (C.ty (t := "list") (by decide +kernel) T.z_list (by decide +kernel) (by decide +kernel) (by decide +kernel)) ⟨rfl, rfl⟩)) (nomark _)) (okW_or1 (okT_cmp (opS_ne (Room.un64 hr)) (okO_ex (okE_isi1 (C.gl (by decide +kernel)) T.z_isinstance (C.o 0 (by decide +kernel)) (C.ty (t := "tuple") (by decide +kernel) T.z_tuple (by decide +kernel) (by decide +kernel) (by decide +kernel)) ⟨rfl, rfl⟩)) (okO_ex (okE_isi1 (C.gl (by decide +kernel)) T.z_isinstance (C.o 1 (by decide +kernel)) (C.ty (t := "tuple") (by decide +kernel) T.z_tuple (by decide +kernel) (by decide +kernel) (by decide +kernel)) ⟨rfl, rfl⟩)) (nomark _))))) (okSs_cons (okS_ret (okR_e okE_bl))
    okSs_nil) okSs_nil)
    (okSs_cons (okS_ret (okR_e (okE_and (okE_cmp (opS_eq (Room.un64 hr)) (okO_ex (okE_callB callS_len (C.gl (by decide +kernel)) T.z_len (by decide +kernel) (okAO_cons (C.o 0 (by decide +kernel)) okAO_nil rfl) (by decide +kernel) (by decide +kernel) ⟨rfl, rfl⟩)) (okO_ex (okE_callB callS_len (C.gl (by decide +kernel)) T.z_len (by decide +kernel) (okAO_cons (C.o 1 (by decide +kernel)) okAO_nil rfl) (by decide +kernel) (by decide +kernel) ⟨rfl, rfl⟩)) (nomark _)) (okE_one (okE_callB (callS_all rfl) (C.gl (by decide +kernel)) T.z_all (by decide +kernel) (okAO_cons (okO_ex (C.lc [("_law_mine", 3), ("_law_its", 4)] rfl (by decide +kernel) (by decide +kernel) rfl (fun _ => rfl) (okI_zip (C.gl (by decide +kernel)) T.z_zip (C.o 0 (by decide +kernel)) (C.o 1 (by decide +kernel)) ⟨rfl, rfl⟩ ⟨rfl, rfl⟩) (fun s0 H0 C0 cl fp => (okG_tup rfl (okGs_cons (C.blk.g 3 (by decide +kernel)) (okGs_cons (C.blk.g 4 (by decide +kernel)) okGs_nil rfl) rfl) rfl rfl)) (fun s0 H0 C0 cl fp => okTs_nil) (fun s0 H0 C0 cl fp => (okE_fn (C.blk.df (by decide +kernel) T.m_law_same T.F_law_same.kp T.b_law_same (by decide +kernel)) g.law_same hr ⟨rfl, rfl⟩ rfl (okAO_cons (C.blk.o 3 (by decide +kernel)) (okAO_cons (C.blk.o 4 (by decide +kernel)) okAO_nil rfl) rfl) rfl))).dat) okAO_nil rfl) (by decide +kernel) (by decide +kernel) ⟨rfl, rfl⟩)))))
    okSs_nil)) okSs_nil)
    (okSs_cons (okS_if (OkW.t (okW_or (okT_cmp opS_is (C.o 1 (by decide +kernel)) (okO_ex okE_non) (nomark _)) (okW_or1 (okT_tru (okO_ex (okE_isi2 (C.gl (by decide +kernel)) T.z_isinstance (C.o 1 (by decide +kernel)) (C.ty (t := "bool") (by decide +kernel) T.z_bool (by decide +kernel) (by decide +kernel) (by decide +kernel)) (C.ty (t := "str") (by decide +kernel) T.z_str (by decide +kernel) (by decide +kernel) (by decide +kernel)) ⟨rfl, rfl⟩)) (fun _ => rfl))))) (okSs_cons (C.set 2 (by decide +kernel) (by decide +kernel) (okE_and (okE_cmp (opS_eq (Room.un64 hr)) (okO_ex (okE_isi1 (C.gl (by decide +kernel)) T.z_isinstance (C.o 0 (by decide +kernel)) (C.ty (t := "bool") (by decide +kernel) T.z_bool (by decide +kernel) (by decide +kernel) (by decide +kernel)) ⟨rfl, rfl⟩)) (okO_ex (okE_isi1 (C.gl (by decide +kernel)) T.z_isinstance (C.o 1 (by decide +kernel)) (C.ty (t := "bool") (by decide +kernel) T.z_bool (by decide +kernel) (by decide +kernel) (by decide +kernel)) ⟨rfl, rfl⟩)) (nomark _)) (okE_one (okE_cmp (opS_eq (Room.un64 hr)) (okO_ex (okE_cmp opS_is (C.o 0 (by decide +kernel)) (okO_ex okE_non) (nomark _))) (okO_ex (okE_cmp opS_is (C.o 1 (by decide +kernel)) (okO_ex okE_non) (nomark _))) (nomark _)))) rfl)
    (okSs_cons (okS_ret (okR_e (okE_and (okE_cmp (opS_eq (Room.un64 hr)) (C.o 0 (by decide +kernel)) (C.o 1 (by decide +kernel)) (nomark _)) (okE_one (C.v 2 (by decide +kernel))))))
    okSs_nil)) okSs_nil)
    (okSs_cons (okS_ret (okR_e (okE_and (okE_isi1 (C.gl (by decide +kernel)) T.z_isinstance (C.o 0 (by decide +kernel)) (C.ty (t := "int") (by decide +kernel) T.z_int (by decide +kernel) (by decide +kernel) (by decide +kernel)) ⟨rfl, rfl⟩) (okE_and (okE_not (okE_isi1 (C.gl (by decide +kernel)) T.z_isinstance (C.o 0 (by decide +kernel)) (C.ty (t := "bool") (by decide +kernel) T.z_bool (by decide +kernel) (by decide +kernel) (by decide +kernel)) ⟨rfl, rfl⟩)) (okE_one (okE_cmp (opS_eq (Room.un64 hr)) (C.o 0 (by decide +kernel)) (C.o 1 (by decide +kernel)) (nomark _)))))))
    okSs_nil)))
theorem sc_law_box : FnScope ["_law_script", "_law_k", "_law_cell"] ["_law_script", "_law_k"] (defScope (top 10)) := ⟨rfl, rfl, rfl, by decide +kernel, rfl, by decide +kernel, by decide +kernel⟩
theorem ok_law_box (g : Good P w K mg base T k S) : FnN P w K mg base (k + 1) T.f_law_box T.d_law_box ["_law_script", "_law_k"] (runN 3 io_law_box (b_law_box S)) := fnN_of (N := ["_law_script", "_law_k", "_law_cell"]) T.F_law_box sc_law_box fun cdv A outer s H hr => by
  have C : Sc (bodyCx P w K mg base ["_law_script", "_law_k", "_law_cell"] "_law_box" (top 10) T.f_law_box cdv A outer s H) ["_law_script", "_law_k", "_law_cell"] (defScope (top 10)) := ⟨rfl, rfl⟩
  exact (okSs_cons (C.set 2 (by decide +kernel) (by decide +kernel) (okE_if (okT_cmp opS_lt (C.o 1 (by decide +kernel)) (okO_ex (okE_callB callS_len (C.gl (by decide +kernel)) T.z_len (by decide +kernel) (okAO_cons (C.o 0 (by decide +kernel)) okAO_nil rfl) (by decide +kernel) (by decide +kernel) ⟨rfl, rfl⟩)) (nomark _)) (okE_ix (C.o 0 (by decide +kernel)) (C.o 1 (by decide +kernel)) (fun _ _ => rfl)) okE_int) rfl)
    (okSs_cons (okS_retNew (okN_lst (okA_cons (okE_bin opS_mul (okO_ex (okE_callB callS_abs (C.gl (by decide +kernel)) T.z_abs (by decide +kernel) (okAO_cons (C.o 2 (by decide +kernel)) okAO_nil rfl) (by decide +kernel) (by decide +kernel) ⟨rfl, rfl⟩)) (okO_ex (okE_callTy callS_int (C.gl (by decide +kernel)) T.z_int (by decide +kernel) (okAO_cons (okO_ex (okE_cmp opS_ge (okO_ex (okE_callB callS_abs (C.gl (by decide +kernel)) T.z_abs (by decide +kernel) (okAO_cons (C.o 2 (by decide +kernel)) okAO_nil rfl) (by decide +kernel) (by decide +kernel) ⟨rfl, rfl⟩)) (okO_ex (okE_bin opS_pow (okO_ex okE_int) (okO_ex okE_int))) (nomark _))) okAO_nil rfl) (by decide +kernel) (by decide +kernel) ⟨rfl, rfl⟩))) (okA_cons (okE_bin opS_add (okO_ex (okE_bin opS_add (okO_ex (okE_bin opS_mod (okO_ex (okE_callTy callS_int (C.gl (by decide +kernel)) T.z_int (by decide +kernel) (okAO_cons (C.o 2 (by decide +kernel)) okAO_nil rfl) (by decide +kernel) (by decide +kernel) ⟨rfl, rfl⟩)) (okO_ex okE_int))) (okO_ex (okE_bin opS_mul (okO_ex okE_int) (C.o 1 (by decide +kernel)))))) (okO_ex okE_int)) (okA_cons okE_int okA_nil rfl) rfl) rfl)))
    okSs_nil))
theorem sc_law_pairs : FnScope ["_law_box_here", "_law_many_so", "_law_found", "_law_left", "_law_turn", "_law_way", "_law_told_so", "_law_letter"] ["_law_box_here", "_law_many_so"] (defScope (top 11)) := ⟨rfl, rfl, rfl, by decide +kernel, rfl, by decide +kernel, by decide +kernel⟩
theorem ok_law_pairs (g : Good P w K mg base T k S) : FnG P w K mg base (k + 1) T.f_law_pairs T.d_law_pairs ["_law_box_here", "_law_many_so"] (runF 8 io_law_pairs (b_law_pairs S)) := fnG_of (N := ["_law_box_here", "_law_many_so", "_law_found", "_law_left", "_law_turn", "_law_way", "_law_told_so", "_law_letter"]) T.F_law_pairs sc_law_pairs fun cdv A outer s H hr => by
  have C : Sc (bodyCx P w K mg base ["_law_box_here", "_law_many_so", "_law_found", "_law_left", "_law_turn", "_law_way", "_law_told_so", "_law_letter"] "_law_pairs" (top 11) T.f_law_pairs cdv A outer s H) ["_law_box_here", "_law_many_so", "_law_found", "_law_left", "_law_turn", "_law_way", "_law_told_so", "_law_letter"] (defScope (top 11)) := ⟨rfl, rfl⟩
  exact (okSs_cons (C.own 2 (by decide +kernel) (by decide +kernel) (okN_lst (okA_cons (okE_tup (okA_cons (okE_tup (okA_cons (okE_str (by decide +kernel)) (okA_cons (okE_callTy callS_tuple (C.gl (by decide +kernel)) T.z_tuple (by decide +kernel) (okAO_cons (okO_ex (C.lc [("_law_letter", 7)] rfl (by decide +kernel) (by decide +kernel) rfl (fun _ => rfl) (okI_data (okO_ex (okE_str (by decide +kernel)))) (fun s0 H0 C0 cl fp => (C.blk.g 7 (by decide +kernel))) (fun s0 H0 C0 cl fp => okTs_nil) (fun s0 H0 C0 cl fp => (okE_tup (okA_cons (C.blk.v 7 (by decide +kernel)) (okA_cons (okE_tup (okA_cons (okE_str (by decide +kernel)) okA_nil rfl)) (okA_cons (okE_tup okA_nil) okA_nil rfl) rfl) rfl)))).dat) okAO_nil rfl) (by decide +kernel) (by decide +kernel) ⟨rfl, rfl⟩) okA_nil rfl) rfl)) (okA_cons okE_non okA_nil rfl) rfl)) okA_nil rfl)) rfl)
    (okSs_cons (C.setLc 3 [("_law_letter", 7)] (by decide +kernel) rfl (by decide +kernel) (by decide +kernel) (by decide +kernel) rfl (fun _ => rfl) (okI_data (okO_ex (okE_str (by decide +kernel)))) (fun s0 H0 C0 cl fp => (C.blk.g 7 (by decide +kernel))) (fun s0 H0 C0 cl fp => okTs_nil) (fun s0 H0 C0 cl fp => (okE_tup (okA_cons (C.blk.v 7 (by decide +kernel)) (okA_cons (okE_tup (okA_cons (okE_str (by decide +kernel)) okA_nil rfl)) (okA_cons okE_non (okA_cons okE_bl (okA_cons okE_bl okA_nil rfl) rfl) rfl) rfl) rfl))))
    (okSs_cons (okS_for PassesOwn.never rfl (okI_range1 (C.gl (by decide +kernel)) T.z_range (okE_fn (C.df (by decide +kernel) T.m_law_take T.F_law_take.kp T.b_law_take (by decide +kernel)) g.law_take hr ⟨rfl, rfl⟩ rfl (okAO_cons (C.o 0 (by decide +kernel)) (okAO_cons (okO_ex (okE_bin opS_add (C.o 1 (by decide +kernel)) (okO_ex okE_int))) okAO_nil rfl) rfl) rfl) rfl) (C.g 4 (by decide +kernel)) (by decide +kernel) (okSs_cons (C.set 5 (by decide +kernel) (by decide +kernel) (okE_fn (C.df (by decide +kernel) T.m_law_take T.F_law_take.kp T.b_law_take (by decide +kernel)) g.law_take hr ⟨rfl, rfl⟩ rfl (okAO_cons (C.o 0 (by decide +kernel)) (okAO_cons (okO_ex okE_int) okAO_nil rfl) rfl) rfl) rfl)
    (okSs_cons (okS_if (okT_cmp opS_lt (C.o 5 (by decide +kernel)) (okO_ex okE_int) (nomark _)) (okSs_cons (okS_expr (C.app 2 (by decide +kernel) (okE_tup (okA_cons (okE_tup (okA_cons (okE_str (by decide +kernel)) okA_nil rfl)) (okA_cons (okE_tup okA_nil) okA_nil rfl) rfl)) rfl rfl) rfl)
    okSs_nil) (okSs_cons (okS_if (okT_cmp (opS_eq (Room.un64 hr)) (C.o 5 (by decide +kernel)) (okO_ex okE_int) (nomark _)) (okSs_cons (okS_expr (C.app 2 (by decide +kernel) (okE_tup (okA_cons (okE_tup (okA_cons (okE_str (by decide +kernel)) (okA_cons (okE_bin opS_add (okO_ex okE_int) (C.o 5 (by decide +kernel))) okA_nil rfl) rfl)) (okA_cons okE_non okA_nil rfl) rfl)) rfl rfl) rfl)
    okSs_nil) (okSs_cons (C.set 6 (by decide +kernel) (by decide +kernel) (okE_if (okT_cmp opS_lt (C.o 5 (by decide +kernel)) (okO_ex okE_int) (nomark _)) (okE_callTy callS_tuple (C.gl (by decide +kernel)) T.z_tuple (by decide +kernel) (okAO_cons (okO_ex (okE_cut (C.o 3 (by decide +kernel)) okP_none (okP_some (okE_fn (C.df (by decide +kernel) T.m_law_take T.F_law_take.kp T.b_law_take (by decide +kernel)) g.law_take hr ⟨rfl, rfl⟩ rfl (okAO_cons (C.o 0 (by decide +kernel)) (okAO_cons (okO_ex okE_int) okAO_nil rfl) rfl) rfl)))) okAO_nil rfl) (by decide +kernel) (by decide +kernel) ⟨rfl, rfl⟩) (okE_tup okA_nil)) rfl)
    (okSs_cons (C.set 3 (by decide +kernel) (by decide +kernel) (okE_cut (C.o 3 (by decide +kernel)) (okP_some (okE_callB callS_len (C.gl (by decide +kernel)) T.z_len (by decide +kernel) (okAO_cons (C.o 6 (by decide +kernel)) okAO_nil rfl) (by decide +kernel) (by decide +kernel) ⟨rfl, rfl⟩)) okP_none) rfl)
    (okSs_cons (okS_expr (C.app 2 (by decide +kernel) (okE_tup (okA_cons (okE_tup (okA_cons (okE_str (by decide +kernel)) (okA_cons (okE_bin opS_add (okO_ex okE_int) (C.o 5 (by decide +kernel))) okA_nil rfl) rfl)) (okA_cons (C.v 6 (by decide +kernel)) okA_nil rfl) rfl)) rfl rfl) rfl)
    okSs_nil))))
    okSs_nil))
    okSs_nil)) (fun _ => rfl))
    (okSs_cons (okS_ret (okR_e (okE_callTy callS_tuple (C.gl (by decide +kernel)) T.z_tuple (by decide +kernel) (okAO_cons (C.o 2 (by decide +kernel)) okAO_nil rfl) (by decide +kernel) (by decide +kernel) ⟨rfl, rfl⟩)))
    okSs_nil))))
theorem sc_law_shut : FnScope ["_law_pairs_so", "_law_words", "_law_rest", "_law_pair_so", "_law_at"] ["_law_pairs_so"] (defScope (top 12)) := ⟨rfl, rfl, rfl, by decide +kernel, rfl, by decide +kernel, by decide +kernel⟩
theorem ok_law_shut (g : Good P w K mg base T k S) : FnG P w K mg base (k + 1) T.f_law_shut T.d_law_shut ["_law_pairs_so"] (runF 5 io_law_shut (b_law_shut S)) := fnG_of (N := ["_law_pairs_so", "_law_words", "_law_rest", "_law_pair_so", "_law_at"]) T.F_law_shut sc_law_shut fun cdv A outer s H hr => by
  have C : Sc (bodyCx P w K mg base ["_law_pairs_so", "_law_words", "_law_rest", "_law_pair_so", "_law_at"] "_law_shut" (top 12) T.f_law_shut cdv A outer s H) ["_law_pairs_so", "_law_words", "_law_rest", "_law_pair_so", "_law_at"] (defScope (top 12)) := ⟨rfl, rfl⟩
  exact (okSs_cons (C.setLc 1 [("_law_pair_so", 3)] (by decide +kernel) rfl (by decide +kernel) (by decide +kernel) (by decide +kernel) rfl (fun _ => rfl) (okI_data (C.o 0 (by decide +kernel))) (fun s0 H0 C0 cl fp => (C.blk.g 3 (by decide +kernel))) (fun s0 H0 C0 cl fp => okTs_nil) (fun s0 H0 C0 cl fp => (okE_ix (okO_ex (okE_ix (C.blk.o 3 (by decide +kernel)) (okO_ex okE_int) (fun _ _ => rfl))) (okO_ex okE_int) (fun _ _ => rfl))))
    (okSs_cons (okS_if (okT_cmp (opS_notIn (Room.un65 hr)) (okO_ex (okE_str (by decide +kernel))) (C.o 1 (by decide +kernel)) (by rfl)) (okSs_cons (okS_ret (okR_e okE_bl))
    okSs_nil) okSs_nil)
    (okSs_cons (C.set 2 (by decide +kernel) (by decide +kernel) (okE_cut (C.o 0 (by decide +kernel)) (okP_some (okE_bin opS_sub (okO_ex (okE_callB callS_len (C.gl (by decide +kernel)) T.z_len (by decide +kernel) (okAO_cons (C.o 1 (by decide +kernel)) okAO_nil rfl) (by decide +kernel) (by decide +kernel) ⟨rfl, rfl⟩)) (okO_ex (okE_index (Room.un65 hr) (okE_rev (C.o 1 (by decide +kernel))) (okE_str (by decide +kernel)) rfl rfl rfl)))) okP_none) rfl)
    (okSs_cons (okS_if (OkW.t (okW_or (okT_cmp (opS_eq (Room.un64 hr)) (C.o 2 (by decide +kernel)) (okO_ex (okE_tup okA_nil)) (nomark _)) (okW_or1 (okT_cmp (opS_ne (Room.un64 hr)) (okO_ex (C.lc [("_law_pair_so", 3)] rfl (by decide +kernel) (by decide +kernel) rfl (fun _ => rfl) (okI_data (C.o 2 (by decide +kernel))) (fun s0 H0 C0 cl fp => (C.blk.g 3 (by decide +kernel))) (fun s0 H0 C0 cl fp => (okTs_one (okT_cmp (opS_ne (Room.un64 hr)) (okO_ex (okE_ix (okO_ex (okE_ix (C.blk.o 3 (by decide +kernel)) (okO_ex okE_int) (fun _ _ => rfl))) (okO_ex okE_int) (fun _ _ => rfl))) (okO_ex (okE_str (by decide +kernel))) (nomark _)))) (fun s0 H0 C0 cl fp => (C.blk.v 3 (by decide +kernel)))).dat) (okO_ex (okN_lst okA_nil).dat) (nomark _))))) (okSs_cons (okS_ret (okR_e okE_bl))
    okSs_nil) okSs_nil)
    (okSs_cons (okS_ret (okR_e (okE_cmp (opS_eq (Room.un64 hr)) (okO_ex (C.lc [("_law_at", 4), ("_law_pair_so", 3)] rfl (by decide +kernel) (by decide +kernel) rfl (fun _ => rfl) (okI_enum (C.gl (by decide +kernel)) T.z_enumerate (C.o 2 (by decide +kernel)) ⟨rfl, rfl⟩ rfl) (fun s0 H0 C0 cl fp => (okG_tup rfl (okGs_cons (C.blk.g 4 (by decide +kernel)) (okGs_cons (C.blk.g 3 (by decide +kernel)) okGs_nil rfl) rfl) rfl rfl)) (fun s0 H0 C0 cl fp => (okTs_one (okT_cmp (opS_eq (Room.un64 hr)) (okO_ex (okE_ix (C.blk.o 3 (by decide +kernel)) (okO_ex okE_int) (fun _ _ => rfl))) (okO_ex (okE_tup okA_nil)) (nomark _)))) (fun s0 H0 C0 cl fp => (C.blk.v 4 (by decide +kernel)))).dat) (okO_ex (okN_lst (okA_cons (okE_bin opS_sub (okO_ex (okE_callB callS_len (C.gl (by decide +kernel)) T.z_len (by decide +kernel) (okAO_cons (C.o 2 (by decide +kernel)) okAO_nil rfl) (by decide +kernel) (by decide +kernel) ⟨rfl, rfl⟩)) (okO_ex okE_int)) okA_nil rfl)).dat) (nomark _))))
    okSs_nil)))))
theorem sc_law_right : FnScope ["_law_box_here", "_law_turn", "_law_some", "_law_soft", "_law_due", "_law_shown", "_law_told", "_law_parts_so", "_law_pair_so"] ["_law_box_here"] (defScope (top 13)) := ⟨rfl, rfl, rfl, by decide +kernel, rfl, by decide +kernel, by decide +kernel⟩
theorem ok_law_right (g : Good P w K mg base T k S) : FnG P w K mg base (k + 1) T.f_law_right T.d_law_right ["_law_box_here"] (runF 9 io_law_right (b_law_right S)) := fnG_of (N := ["_law_box_here", "_law_turn", "_law_some", "_law_soft", "_law_due", "_law_shown", "_law_told", "_law_parts_so", "_law_pair_so"]) T.F_law_right sc_law_right fun cdv A outer s H hr => by
  have C : Sc (bodyCx P w K mg base ["_law_box_here", "_law_turn", "_law_some", "_law_soft", "_law_due", "_law_shown", "_law_told", "_law_parts_so", "_law_pair_so"] "_law_right" (top 13) T.f_law_right cdv A outer s H) ["_law_box_here", "_law_turn", "_law_some", "_law_soft", "_law_due", "_law_shown", "_law_told", "_law_parts_so", "_law_pair_so"] (defScope (top 13)) := ⟨rfl, rfl⟩
  exact (okSs_cons (okS_for PassesOwn.never rfl (okI_range1 (C.gl (by decide +kernel)) T.z_range okE_int rfl) (C.g 1 (by decide +kernel)) (by decide +kernel) (okSs_cons (C.set 2 (by decide +kernel) (by decide +kernel) (okE_fn (C.df (by decide +kernel) T.m_law_pairs T.F_law_pairs.kp T.b_law_pairs (by decide +kernel)) g.law_pairs hr ⟨rfl, rfl⟩ rfl (okAO_cons (C.o 0 (by decide +kernel)) (okAO_cons (okO_ex okE_int) okAO_nil rfl) rfl) rfl) rfl)
    (okSs_cons (C.set 2 (by decide +kernel) (by decide +kernel) (okE_if (okT_cmp (opS_eq (Room.un64 hr)) (okO_ex (okE_bin opS_mod (okO_ex (okE_callTy callS_int (C.gl (by decide +kernel)) T.z_int (by decide +kernel) (okAO_cons (C.o 1 (by decide +kernel)) okAO_nil rfl) (by decide +kernel) (by decide +kernel) ⟨rfl, rfl⟩)) (okO_ex okE_int))) (okO_ex okE_int) (nomark _)) (okE_bin opS_add (C.o 2 (by decide +kernel)) (okO_ex (okE_tup (okA_cons (okE_tup (okA_cons (okE_tup (okA_cons (okE_str (by decide +kernel)) okA_nil rfl)) (okA_cons (okE_tup okA_nil) okA_nil rfl) rfl)) (okA_cons (okE_tup (okA_cons (okE_tup (okA_cons (okE_str (by decide +kernel)) (okA_cons okE_int okA_nil rfl) rfl)) (okA_cons (okE_tup okA_nil) okA_nil rfl) rfl)) okA_nil rfl) rfl)))) (C.v 2 (by decide +kernel))) rfl)
    (okSs_cons (C.three 3 4 5 rfl (by decide +kernel) (by decide +kernel) (by decide +kernel) (by decide +kernel) (by decide +kernel) (by decide +kernel) (by decide +kernel) (okAv_d (okE_fn (C.df (by decide +kernel) T.m_law_mixed T.F_law_mixed.kp T.b_law_mixed (by decide +kernel)) g.law_mixed hr ⟨rfl, rfl⟩ rfl (okAO_cons (C.o 0 (by decide +kernel)) (okAO_cons (C.o 2 (by decide +kernel)) okAO_nil rfl) rfl) rfl) (okAv_d (okE_fn (C.df (by decide +kernel) T.m_law_shut T.F_law_shut.kp T.b_law_shut (by decide +kernel)) g.law_shut hr ⟨rfl, rfl⟩ rfl (okAO_cons (C.o 2 (by decide +kernel)) okAO_nil rfl) rfl) (okAv_d (okE_callB (callS_repr (Room.un64 hr) hr.gd) (C.gl (by decide +kernel)) T.z_repr (by decide +kernel) (okAO_cons (C.o 2 (by decide +kernel)) okAO_nil rfl) (by decide +kernel) (by decide +kernel) ⟨rfl, rfl⟩) okAv_nil rfl) rfl) rfl) rfl rfl)
    (okSs_cons (C.set 6 (by decide +kernel) (by decide +kernel) (okN_lst (okA_cons (okE_fn (C.df (by decide +kernel) T.m_is_closed T.F_is_closed.kp T.b_is_closed (by decide +kernel)) g.is_closed hr ⟨rfl, rfl⟩ rfl (okAO_cons (C.o 2 (by decide +kernel)) okAO_nil rfl) rfl) (okA_cons (okE_fnk (C.df (by decide +kernel) T.m_is_closed T.F_is_closed.kp T.b_is_closed (by decide +kernel)) T.k_is_closed g.is_closed hr (okO_ex (okE_fn (C.df (by decide +kernel) T.m_law_lists T.F_law_lists.kp T.b_law_lists (by decide +kernel)) g.law_lists hr ⟨rfl, rfl⟩ rfl (okAO_cons (C.o 2 (by decide +kernel)) okAO_nil rfl) rfl))) (okA_cons (okE_fn (C.df (by decide +kernel) T.m_is_closed T.F_is_closed.kp T.b_is_closed (by decide +kernel)) g.is_closed hr ⟨rfl, rfl⟩ rfl (okAO_cons (C.o 3 (by decide +kernel)) okAO_nil rfl) rfl) okA_nil rfl) rfl) rfl)).dat rfl)
    (okSs_cons (okS_if (OkW.t (okW_or (okT_not (okT_tru (okO_ex (okE_fn (C.df (by decide +kernel) T.m_law_same T.F_law_same.kp T.b_law_same (by decide +kernel)) g.law_same hr ⟨rfl, rfl⟩ rfl (okAO_cons (C.o 6 (by decide +kernel)) (okAO_cons (okO_ex (okE_bin opS_mul (okO_ex (okN_lst (okA_cons (C.v 4 (by decide +kernel)) okA_nil rfl)).dat) (okO_ex okE_int))) okAO_nil rfl) rfl) rfl)) (fun _ => rfl))) (okW_or1 (okT_cmp (opS_ne (Room.un64 hr)) (okO_ex (okE_callB (callS_repr (Room.un64 hr) hr.gd) (C.gl (by decide +kernel)) T.z_repr (by decide +kernel) (okAO_cons (C.o 2 (by decide +kernel)) okAO_nil rfl) (by decide +kernel) (by decide +kernel) ⟨rfl, rfl⟩)) (C.o 5 (by decide +kernel)) (nomark _))))) (okSs_cons (okS_ret (okR_e okE_bl))
    okSs_nil) okSs_nil)
    (okSs_cons (C.set 7 (by decide +kernel) (by decide +kernel) (okE_callTy callS_tuple (C.gl (by decide +kernel)) T.z_tuple (by decide +kernel) (okAO_cons (okO_ex (C.lc [("_law_pair_so", 8)] rfl (by decide +kernel) (by decide +kernel) rfl (fun _ => rfl) (okI_data (C.o 2 (by decide +kernel))) (fun s0 H0 C0 cl fp => (C.blk.g 8 (by decide +kernel))) (fun s0 H0 C0 cl fp => okTs_nil) (fun s0 H0 C0 cl fp => (okE_ix (C.blk.o 8 (by decide +kernel)) (okO_ex okE_int) (fun _ _ => rfl)))).dat) okAO_nil rfl) (by decide +kernel) (by decide +kernel) ⟨rfl, rfl⟩) rfl)
    (okSs_cons (okS_if (okT_not (okT_tru (okO_ex (okE_fn (C.df (by decide +kernel) T.m_law_same T.F_law_same.kp T.b_law_same (by decide +kernel)) g.law_same hr ⟨rfl, rfl⟩ rfl (okAO_cons (okO_ex (okN_lst (okA_cons (okE_fn (C.df (by decide +kernel) T.m_script_of T.F_script_of.kp T.b_script_of (by decide +kernel)) g.script_of hr ⟨rfl, rfl⟩ rfl (okAO_cons (C.o 2 (by decide +kernel)) okAO_nil rfl) rfl) (okA_cons (okE_fnk (C.df (by decide +kernel) T.m_script_of T.F_script_of.kp T.b_script_of (by decide +kernel)) T.k_script_of g.script_of hr (C.o 3 (by decide +kernel))) okA_nil rfl) rfl)).dat) (okAO_cons (okO_ex (okN_lst (okA_cons (C.v 7 (by decide +kernel)) (okA_cons (C.v 7 (by decide +kernel)) okA_nil rfl) rfl)).dat) okAO_nil rfl) rfl) rfl)) (fun _ => rfl))) (okSs_cons (okS_ret (okR_e okE_bl))
    okSs_nil) okSs_nil)
    okSs_nil))))))) (fun _ => rfl))
    (okSs_cons (okS_ret (okR_e (okE_fn (C.df (by decide +kernel) T.m_law_same T.F_law_same.kp T.b_law_same (by decide +kernel)) g.law_same hr ⟨rfl, rfl⟩ rfl (okAO_cons (okO_ex (okN_lst (okA_cons (okE_fn (C.df (by decide +kernel) T.m_is_closed T.F_is_closed.kp T.b_is_closed (by decide +kernel)) g.is_closed hr ⟨rfl, rfl⟩ rfl (okAO_cons (okO_ex (okE_tup okA_nil)) okAO_nil rfl) rfl) (okA_cons (okE_fn (C.df (by decide +kernel) T.m_script_of T.F_script_of.kp T.b_script_of (by decide +kernel)) g.script_of hr ⟨rfl, rfl⟩ rfl (okAO_cons (okO_ex (okE_tup okA_nil)) okAO_nil rfl) rfl) okA_nil rfl) rfl)).dat) (okAO_cons (okO_ex (okN_lst (okA_cons okE_bl (okA_cons (okE_tup okA_nil) okA_nil rfl) rfl)).dat) okAO_nil rfl) rfl) rfl)))
    okSs_nil))
theorem sc_law : FnScope ["_law_script", "_law_k", "_law_box_here", "_law_turn"] ["_law_script"] (defScope (top 14)) := ⟨rfl, rfl, rfl, by decide +kernel, rfl, by decide +kernel, by decide +kernel⟩
theorem ok_law (g : Good P w K mg base T k S) : FnG P w K mg base (k + 1) T.f_law T.d_law ["_law_script"] (runF 4 io_law (b_law S)) := fnG_of (N := ["_law_script", "_law_k", "_law_box_here", "_law_turn"]) T.F_law sc_law fun cdv A outer s H hr => by
  have C : Sc (bodyCx P w K mg base ["_law_script", "_law_k", "_law_box_here", "_law_turn"] "law" (top 14) T.f_law cdv A outer s H) ["_law_script", "_law_k", "_law_box_here", "_law_turn"] (defScope (top 14)) := ⟨rfl, rfl⟩
  exact (okSs_cons (okS_for PassesOwn.never rfl (okI_range1 (C.gl (by decide +kernel)) T.z_range (okE_bin opS_add (okO_ex okE_int) (okO_ex (okE_callB (callS_min rfl) (C.gl (by decide +kernel)) T.z_min (by decide +kernel) (okAO_cons (okO_ex okE_int) (okAO_cons (okO_ex (okE_callB callS_len (C.gl (by decide +kernel)) T.z_len (by decide +kernel) (okAO_cons (C.o 0 (by decide +kernel)) okAO_nil rfl) (by decide +kernel) (by decide +kernel) ⟨rfl, rfl⟩)) okAO_nil rfl) rfl) (by decide +kernel) (by decide +kernel) ⟨rfl, rfl⟩))) rfl) (C.g 1 (by decide +kernel)) (by decide +kernel) (okSs_cons (C.ownC 2 cells_body (by decide +kernel) (by decide +kernel) (okN_fn (C.df (by decide +kernel) T.m_law_box T.F_law_box.kp T.b_law_box (by decide +kernel)) g.law_box hr ⟨rfl, rfl⟩ rfl (okAO_cons (C.o 0 (by decide +kernel)) (okAO_cons (C.o 1 (by decide +kernel)) okAO_nil rfl) rfl) rfl) rfl)
    (okSs_cons (okS_if (okT_not (okT_tru (okO_ex (okE_callB (callS_all rfl) (C.gl (by decide +kernel)) T.z_all (by decide +kernel) (okAO_cons (okO_ex (C.lc [("_law_turn", 3)] rfl (by decide +kernel) (by decide +kernel) rfl (fun _ => rfl) (okI_range1 (C.gl (by decide +kernel)) T.z_range okE_int rfl) (fun s0 H0 C0 cl fp => (C.blk.g 3 (by decide +kernel))) (fun s0 H0 C0 cl fp => okTs_nil) (fun s0 H0 C0 cl fp => (okE_fn (C.blk.df (by decide +kernel) T.m_law_right T.F_law_right.kp T.b_law_right (by decide +kernel)) g.law_right hr ⟨rfl, rfl⟩ rfl (okAO_cons (C.blk.o 2 (by decide +kernel)) okAO_nil rfl) rfl))).dat) okAO_nil rfl) (by decide +kernel) (by decide +kernel) ⟨rfl, rfl⟩)) (fun _ => rfl))) (okSs_cons (okS_ret (okR_e okE_bl))
    okSs_nil) okSs_nil)
    okSs_nil)) (fun _ => rfl))
    (okSs_cons (okS_ret (okR_e okE_bl))
    okSs_nil))
theorem good : ∀ k, Good P w K mg base T k (sems k)
  | 0 => ⟨fnG_none, fnG_none, fnG_none, fnG_none, fnG_none, fnG_none, fnG_none, fnN_none, fnG_none, fnG_none, fnG_none, fnG_none⟩
  | k + 1 => ⟨ok_tupled (good k), ok_script_of (good k), ok_is_closed (good k), ok_law_take (good k), ok_law_mixed (good k), ok_law_lists (good k), ok_law_same (good k), ok_law_box (good k), ok_law_pairs (good k), ok_law_shut (good k), ok_law_right (good k), ok_law (good k)⟩
end
end K06

namespace K06
open PySem PySem.Spec L2 DL
theorem size1000 {n : Nat} (h : n ≤ 1000) : n ≤ sizeLine := Nat.le_trans h (by decide)
/-! tupled -/
theorem tupled_ok : ∀ (k : Nat) {d : D}, fit 1000 k d = true → (sems (k + 1)).tupled [.d d] = some (tupD d, [.d d]) := by
  have leaf : ∀ (k : Nat) (d : D), isT2 "list" "tuple" d = some false → tupD d = d → (sems (k + 1)).tupled [.d d] = some (tupD d, [.d d]) := fun k d h e => by
    rw [sems_tupled]
    simp [runF, DL.runN, ioOk, pad, envOf, sSeq, sRet, sRetN, sIf, sSet, sOwn, sPut, sExpr, sFor, sAug, sUnp, sPar, avs, setsE, sNext, mIf, mTru, mIsi, Opd.here, Opd.pre, Opd.post, Opd.postD, Opd.postR, view, truth, rVar, outs, mCall, preAll, postAll, DL.listOf, nLst, nLc, aNil, aCons, mTup, iData, iRange1, iRange2, DL.iZip, iEnum2, Tg.ix, Tgs.ix, notOwn, wipeE, restore, tBin, mBin, two, mCst, mVar, atI, ixN, mNeg, mNot, mNotV, mAnd, mOr, tAndM, tOrM, mFn, nFn, DL.args, argSl, given, gv1, back, bk1, Tg.bind, Tgs.bind, Tgs.len, tTrue, mAppend, mCut, mRev, mIndex, sz, partM, io_tupled, b_tupled, h, e]
  have node : ∀ (k : Nat) (d : D) (xs : List D), isT2 "list" "tuple" d = some true → (d = .list xs ∨ d = .tuple xs) → xs.length ≤ 1000 → (∀ x ∈ xs, (sems (k + 1)).tupled [.d x] = some (tupD x, [.d x])) → (sems (k + 1 + 1)).tupled [.d d] = some (.tuple (tupL xs), [.d d]) := fun k d xs h e hl ih => by
    rw [sems_tupled]
    have lc : lcLoop (.nm 1) tTrue (mFn (sems (k + 1)).tupled [(.sl 1)]) [1] xs [some (.d d), none] = some (xs.map tupD, [some (.d d), none]) := lc_map tupD fun x hx => ⟨[some (.d d), some (.d x)], by simp [runF, DL.runN, ioOk, pad, envOf, sSeq, sRet, sRetN, sIf, sSet, sOwn, sPut, sExpr, sFor, sAug, sUnp, sPar, avs, setsE, sNext, mIf, mTru, mIsi, Opd.here, Opd.pre, Opd.post, Opd.postD, Opd.postR, view, truth, rVar, outs, mCall, preAll, postAll, DL.listOf, nLst, nLc, aNil, aCons, mTup, iData, iRange1, iRange2, DL.iZip, iEnum2, Tg.ix, Tgs.ix, notOwn, wipeE, restore, tBin, mBin, two, mCst, mVar, atI, ixN, mNeg, mNot, mNotV, mAnd, mOr, tAndM, tOrM, mFn, nFn, DL.args, argSl, given, gv1, back, bk1, Tg.bind, Tgs.bind, Tgs.len, tTrue, mAppend, mCut, mRev, mIndex, sz, partM], by simp [runF, DL.runN, ioOk, pad, envOf, sSeq, sRet, sRetN, sIf, sSet, sOwn, sPut, sExpr, sFor, sAug, sUnp, sPar, avs, setsE, sNext, mIf, mTru, mIsi, Opd.here, Opd.pre, Opd.post, Opd.postD, Opd.postR, view, truth, rVar, outs, mCall, preAll, postAll, DL.listOf, nLst, nLc, aNil, aCons, mTup, iData, iRange1, iRange2, DL.iZip, iEnum2, Tg.ix, Tgs.ix, notOwn, wipeE, restore, tBin, mBin, two, mCst, mVar, atI, ixN, mNeg, mNot, mNotV, mAnd, mOr, tAndM, tOrM, mFn, nFn, DL.args, argSl, given, gv1, back, bk1, Tg.bind, Tgs.bind, Tgs.len, tTrue, mAppend, mCut, mRev, mIndex, sz, partM, ih x hx], by simp [runF, DL.runN, ioOk, pad, envOf, sSeq, sRet, sRetN, sIf, sSet, sOwn, sPut, sExpr, sFor, sAug, sUnp, sPar, avs, setsE, sNext, mIf, mTru, mIsi, Opd.here, Opd.pre, Opd.post, Opd.postD, Opd.postR, view, truth, rVar, outs, mCall, preAll, postAll, DL.listOf, nLst, nLc, aNil, aCons, mTup, iData, iRange1, iRange2, DL.iZip, iEnum2, Tg.ix, Tgs.ix, notOwn, wipeE, restore, tBin, mBin, two, mCst, mVar, atI, ixN, mNeg, mNot, mNotV, mAnd, mOr, tAndM, tOrM, mFn, nFn, DL.args, argSl, given, gv1, back, bk1, Tg.bind, Tgs.bind, Tgs.len, tTrue, mAppend, mCut, mRev, mIndex, sz, partM]⟩
    have hs : xs.length ≤ sizeLine := size1000 hl
    rw [show tupL xs = xs.map tupD from tupL_map xs]
    generalize hm : mFn (sems (k + 1)).tupled [(.sl 1)] = m at lc
    generalize ht : tTrue = t at lc
    rcases e with e | e <;> subst e <;> simp [runF, DL.runN, ioOk, pad, envOf, sSeq, sRet, sRetN, sIf, sSet, sOwn, sPut, sExpr, sFor, sAug, sUnp, sPar, avs, setsE, sNext, mIf, mTru, mIsi, Opd.here, Opd.pre, Opd.post, Opd.postD, Opd.postR, view, truth, rVar, outs, mCall, preAll, postAll, DL.listOf, nLst, nLc, aNil, aCons, mTup, iData, iRange1, iRange2, DL.iZip, iEnum2, Tg.ix, Tgs.ix, notOwn, wipeE, restore, tBin, mBin, two, mCst, mVar, atI, ixN, mNeg, mNot, mNotV, mAnd, mOr, tAndM, tOrM, mFn, nFn, DL.args, argSl, given, gv1, back, bk1, Tg.bind, Tgs.bind, Tgs.len, tTrue, mAppend, mCut, mRev, mIndex, sz, partM, io_tupled, b_tupled, h, hm, ht, lc, hs, fTuple]
  intro k
  induction k with
  | zero =>
    intro d h
    cases d with
    | list xs => cases h
    | tuple xs => cases h
    | dict _ => cases h
    | none => exact leaf 0 _ (by decide) rfl
    | bool b => exact leaf 0 _ (by simp [isT2, isT]) rfl
    | int b => exact leaf 0 _ (by simp [isT2, isT]) rfl
    | str b => exact leaf 0 _ (by simp [isT2, isT]) rfl
  | succ k ih =>
    intro d h
    cases d with
    | dict _ => cases h
    | none => exact leaf _ _ (by decide) rfl
    | bool b => exact leaf _ _ (by simp [isT2, isT]) rfl
    | int b => exact leaf _ _ (by simp [isT2, isT]) rfl
    | str b => exact leaf _ _ (by simp [isT2, isT]) rfl
    | list xs =>
      obtain ⟨j, e, h1, h2⟩ := fit_list h
      cases e
      exact node k _ xs (by simp [isT2, isT]) (.inl rfl) h1 fun x hx => ih (h2 x hx)
    | tuple xs =>
      obtain ⟨j, e, h1, h2⟩ := fit_tuple h
      cases e
      exact node k _ xs (by simp [isT2, isT]) (.inr rfl) h1 fun x hx => ih (h2 x hx)
end K06

namespace K06
open PySem PySem.Spec L2 DL
/-! lists -/
theorem lists_ok : ∀ (k : Nat) {d : D}, fit 1000 k d = true → (sems (k + 1)).law_lists [.d d] = some (lstD d, [.d d]) := by
  have leaf : ∀ (k : Nat) (d : D), isT2 "list" "tuple" d = some false → lstD d = d → (sems (k + 1)).law_lists [.d d] = some (lstD d, [.d d]) := fun k d h e => by
    rw [sems_law_lists]
    simp [runF, DL.runN, ioOk, pad, envOf, sSeq, sRet, sRetN, sIf, sSet, sOwn, sPut, sExpr, sFor, sAug, sUnp, sPar, avs, setsE, sNext, mIf, mTru, mIsi, Opd.here, Opd.pre, Opd.post, Opd.postD, Opd.postR, view, truth, rVar, outs, mCall, preAll, postAll, DL.listOf, nLst, nLc, aNil, aCons, mTup, iData, iRange1, iRange2, DL.iZip, iEnum2, Tg.ix, Tgs.ix, notOwn, wipeE, restore, tBin, mBin, two, mCst, mVar, atI, ixN, mNeg, mNot, mNotV, mAnd, mOr, tAndM, tOrM, mFn, nFn, DL.args, argSl, given, gv1, back, bk1, Tg.bind, Tgs.bind, Tgs.len, tTrue, mAppend, mCut, mRev, mIndex, sz, partM, io_law_lists, b_law_lists, h, e]
  have node : ∀ (k : Nat) (d : D) (xs : List D), isT2 "list" "tuple" d = some true → (d = .list xs ∨ d = .tuple xs) → xs.length ≤ 1000 → (∀ x ∈ xs, (sems (k + 1)).law_lists [.d x] = some (lstD x, [.d x])) → (sems (k + 1 + 1)).law_lists [.d d] = some (.list (lstL xs), [.d d]) := fun k d xs h e hl ih => by
    rw [sems_law_lists]
    have lc : lcLoop (.nm 1) tTrue (mFn (sems (k + 1)).law_lists [(.sl 1)]) [1] xs [some (.d d), none] = some (xs.map lstD, [some (.d d), none]) := lc_map lstD fun x hx => ⟨[some (.d d), some (.d x)], by simp [runF, DL.runN, ioOk, pad, envOf, sSeq, sRet, sRetN, sIf, sSet, sOwn, sPut, sExpr, sFor, sAug, sUnp, sPar, avs, setsE, sNext, mIf, mTru, mIsi, Opd.here, Opd.pre, Opd.post, Opd.postD, Opd.postR, view, truth, rVar, outs, mCall, preAll, postAll, DL.listOf, nLst, nLc, aNil, aCons, mTup, iData, iRange1, iRange2, DL.iZip, iEnum2, Tg.ix, Tgs.ix, notOwn, wipeE, restore, tBin, mBin, two, mCst, mVar, atI, ixN, mNeg, mNot, mNotV, mAnd, mOr, tAndM, tOrM, mFn, nFn, DL.args, argSl, given, gv1, back, bk1, Tg.bind, Tgs.bind, Tgs.len, tTrue, mAppend, mCut, mRev, mIndex, sz, partM], by simp [runF, DL.runN, ioOk, pad, envOf, sSeq, sRet, sRetN, sIf, sSet, sOwn, sPut, sExpr, sFor, sAug, sUnp, sPar, avs, setsE, sNext, mIf, mTru, mIsi, Opd.here, Opd.pre, Opd.post, Opd.postD, Opd.postR, view, truth, rVar, outs, mCall, preAll, postAll, DL.listOf, nLst, nLc, aNil, aCons, mTup, iData, iRange1, iRange2, DL.iZip, iEnum2, Tg.ix, Tgs.ix, notOwn, wipeE, restore, tBin, mBin, two, mCst, mVar, atI, ixN, mNeg, mNot, mNotV, mAnd, mOr, tAndM, tOrM, mFn, nFn, DL.args, argSl, given, gv1, back, bk1, Tg.bind, Tgs.bind, Tgs.len, tTrue, mAppend, mCut, mRev, mIndex, sz, partM, ih x hx], by simp [runF, DL.runN, ioOk, pad, envOf, sSeq, sRet, sRetN, sIf, sSet, sOwn, sPut, sExpr, sFor, sAug, sUnp, sPar, avs, setsE, sNext, mIf, mTru, mIsi, Opd.here, Opd.pre, Opd.post, Opd.postD, Opd.postR, view, truth, rVar, outs, mCall, preAll, postAll, DL.listOf, nLst, nLc, aNil, aCons, mTup, iData, iRange1, iRange2, DL.iZip, iEnum2, Tg.ix, Tgs.ix, notOwn, wipeE, restore, tBin, mBin, two, mCst, mVar, atI, ixN, mNeg, mNot, mNotV, mAnd, mOr, tAndM, tOrM, mFn, nFn, DL.args, argSl, given, gv1, back, bk1, Tg.bind, Tgs.bind, Tgs.len, tTrue, mAppend, mCut, mRev, mIndex, sz, partM]⟩
    have hs : xs.length ≤ sizeLine := size1000 hl
    rw [show lstL xs = xs.map lstD from lstL_map xs]
    generalize hm : mFn (sems (k + 1)).law_lists [(.sl 1)] = m at lc
    generalize ht : tTrue = t at lc
    rcases e with e | e <;> subst e <;> simp [runF, DL.runN, ioOk, pad, envOf, sSeq, sRet, sRetN, sIf, sSet, sOwn, sPut, sExpr, sFor, sAug, sUnp, sPar, avs, setsE, sNext, mIf, mTru, mIsi, Opd.here, Opd.pre, Opd.post, Opd.postD, Opd.postR, view, truth, rVar, outs, mCall, preAll, postAll, DL.listOf, nLst, nLc, aNil, aCons, mTup, iData, iRange1, iRange2, DL.iZip, iEnum2, Tg.ix, Tgs.ix, notOwn, wipeE, restore, tBin, mBin, two, mCst, mVar, atI, ixN, mNeg, mNot, mNotV, mAnd, mOr, tAndM, tOrM, mFn, nFn, DL.args, argSl, given, gv1, back, bk1, Tg.bind, Tgs.bind, Tgs.len, tTrue, mAppend, mCut, mRev, mIndex, sz, partM, io_law_lists, b_law_lists, h, hm, ht, lc, hs, fTuple]
  intro k
  induction k with
  | zero =>
    intro d h
    cases d with
    | list xs => cases h
    | tuple xs => cases h
    | dict _ => cases h
    | none => exact leaf 0 _ (by decide) rfl
    | bool b => exact leaf 0 _ (by simp [isT2, isT]) rfl
    | int b => exact leaf 0 _ (by simp [isT2, isT]) rfl
    | str b => exact leaf 0 _ (by simp [isT2, isT]) rfl
  | succ k ih =>
    intro d h
    cases d with
    | dict _ => cases h
    | none => exact leaf _ _ (by decide) rfl
    | bool b => exact leaf _ _ (by simp [isT2, isT]) rfl
    | int b => exact leaf _ _ (by simp [isT2, isT]) rfl
    | str b => exact leaf _ _ (by simp [isT2, isT]) rfl
    | list xs =>
      obtain ⟨j, e, h1, h2⟩ := fit_list h
      cases e
      exact node k _ xs (by simp [isT2, isT]) (.inl rfl) h1 fun x hx => ih (h2 x hx)
    | tuple xs =>
      obtain ⟨j, e, h1, h2⟩ := fit_tuple h
      cases e
      exact node k _ xs (by simp [isT2, isT]) (.inr rfl) h1 fun x hx => ih (h2 x hx)
/-! the draws -/
theorem take_pos (k : Nat) (b0 b1 b2 n : Int) (h : 0 < b0) (hn : 0 < n) (hn2 : n < 1073741824) : (sems (k+1)).law_take [.own [.int b0, .int b1, .int b2], .d (.int n)] = some (.int (b0 % n), [.own [.int (b0 / n), .int b1, .int b2], .d (.int n)]) := by
  rw [sems_law_take]
  simp [runF, DL.runN, ioOk, pad, envOf, sSeq, sRet, sRetN, sIf, sSet, sOwn, sPut, sExpr, sFor, sAug, sUnp, sPar, avs, setsE, sNext, mIf, mTru, mIsi, Opd.here, Opd.pre, Opd.post, Opd.postD, Opd.postR, view, truth, rVar, outs, mCall, preAll, postAll, DL.listOf, nLst, nLc, aNil, aCons, mTup, iData, iRange1, iRange2, DL.iZip, iEnum2, Tg.ix, Tgs.ix, notOwn, wipeE, restore, tBin, mBin, two, mCst, mVar, atI, ixN, mNeg, mNot, mNotV, mAnd, mOr, tAndM, tOrM, mFn, nFn, DL.args, argSl, given, gv1, back, bk1, Tg.bind, Tgs.bind, Tgs.len, tTrue, mAppend, mCut, mRev, mIndex, sz, partM, io_law_take, b_law_take, fIx, fGt, fInt, fMod, fFdiv, h, hn, hn2]
theorem take_zero (k : Nat) (b1 b2 n : Int) (h2 : 0 ≤ b2) (h3 : b2 < 2 ^ 60) (hn : 0 < n) (hn2 : n < 1073741824) : ∃ v, (sems (k+1)).law_take [.own [.int 0, .int b1, .int b2], .d (.int n)] = some (.int (v % n), [.own [.int 0, .int b1, .int (b2 + 1)], .d (.int n)]) := by
  rw [sems_law_take]
  have m1 : ∀ x : Int, mulOk x (39373 + (b2 + 1)) = true := fun x => by
    unfold mulOk
    simp
    omega
  have m2 : ∀ x y : Int, mulOk x (y % 40009 + 7) = true := fun x y => by
    unfold mulOk
    simp
    omega
  have m3 : ∀ x : Int, mulOk x 48271 = true := fun x => by
    unfold mulOk
    simp
  have m4 : ∀ x : Int, mulOk 48271 x = true := fun x => by
    unfold mulOk
    simp
  simp [runF, DL.runN, ioOk, pad, envOf, sSeq, sRet, sRetN, sIf, sSet, sOwn, sPut, sExpr, sFor, sAug, sUnp, sPar, avs, setsE, sNext, mIf, mTru, mIsi, Opd.here, Opd.pre, Opd.post, Opd.postD, Opd.postR, view, truth, rVar, outs, mCall, preAll, postAll, DL.listOf, nLst, nLc, aNil, aCons, mTup, iData, iRange1, iRange2, DL.iZip, iEnum2, Tg.ix, Tgs.ix, notOwn, wipeE, restore, tBin, mBin, two, mCst, mVar, atI, ixN, mNeg, mNot, mNotV, mAnd, mOr, tAndM, tOrM, mFn, nFn, DL.args, argSl, given, gv1, back, bk1, Tg.bind, Tgs.bind, Tgs.len, tTrue, mAppend, mCut, mRev, mIndex, sz, partM, io_law_take, b_law_take, fIx, fGt, fInt, fMod, fFdiv, fAdd, fMul, m1, m2, m3, m4, hn, hn2]
  exact ⟨_, rfl⟩
/-- the source of draws, with at most t of them behind it -/
def Box (t : Int) (b : List D) : Prop := ∃ b0 b1 b2 : Int, b = [.int b0, .int b1, .int b2] ∧ 0 ≤ b0 ∧ 0 ≤ b2 ∧ b2 ≤ t
theorem Box.mono {t u : Int} {b : List D} (h : Box t b) (hu : t ≤ u) : Box u b := by
  obtain ⟨b0, b1, b2, e, h0, h1, h2⟩ := h
  exact ⟨b0, b1, b2, e, h0, h1, by omega⟩
theorem take_ok (k : Nat) {t n : Int} {b : List D} (h : Box t b) (ht : t < 2 ^ 60) (hn : 0 < n) (hn2 : n < 1073741824) : ∃ v b', (sems (k+1)).law_take [.own b, .d (.int n)] = some (.int v, [.own b', .d (.int n)]) ∧ Box (t + 1) b' ∧ 0 ≤ v ∧ v < n := by
  obtain ⟨b0, b1, b2, rfl, h0, h1, h2⟩ := h
  by_cases hp : 0 < b0
  · exact ⟨_, _, take_pos k b0 b1 b2 n hp hn hn2, ⟨_, _, _, rfl, Int.ediv_nonneg h0 (Int.le_of_lt hn), h1, by omega⟩, Int.emod_nonneg _ (by omega), Int.emod_lt_of_pos _ hn⟩
  · have : b0 = 0 := by omega
    subst this
    obtain ⟨v, e⟩ := take_zero k b1 b2 n h1 (by omega) hn hn2
    exact ⟨_, _, e, ⟨_, _, _, rfl, Int.le_refl 0, by omega, by omega⟩, Int.emod_nonneg _ (by omega), Int.emod_lt_of_pos _ hn⟩
theorem box_ok (k : Nat) (ns : List Int) (i : Nat) (hi : i ≤ 63) : ∃ b, (sems (k+1)).law_box [.scr ns, .d (.int i)] = some (b, [.scr ns, .d (.int i)]) ∧ Box 0 b := by
  rw [sems_law_box]
  have m1 : mulOk 39373 (i : Int) = true := by unfold mulOk; simp
  have m2 : ∀ x : Int, ∀ p : Prop, ∀ _ : Decidable p, mulOk x (if p then 1 else 0) = true := fun x p _ => by
    unfold mulOk
    by_cases h : p <;> simp [h]
  have nn : ∀ (z : Int) (p : Prop) (_ : Decidable p), 0 ≤ (if z < 0 then -z else z) * (if p then 1 else 0) := fun z p _ => by
    have : 0 ≤ (if z < 0 then -z else z) := by split <;> omega
    by_cases h : p
    · simp only [h, if_true, Int.mul_one]; exact this
    · simp [h]
  by_cases h : (i : Int) < ns.length
  · have hx : ns[i]? = some (ns[i]'(by omega)) := List.getElem?_eq_getElem (by omega)
    generalize ns[i]'(by omega) = z at hx
    simp [runF, DL.runN, ioOk, pad, envOf, sSeq, sRet, sRetN, sIf, sSet, sOwn, sPut, sExpr, sFor, sAug, sUnp, sPar, avs, setsE, sNext, mIf, mTru, mIsi, Opd.here, Opd.pre, Opd.post, Opd.postD, Opd.postR, view, truth, rVar, outs, mCall, preAll, postAll, DL.listOf, nLst, nLc, aNil, aCons, mTup, iData, iRange1, iRange2, DL.iZip, iEnum2, Tg.ix, Tgs.ix, notOwn, wipeE, restore, tBin, mBin, two, mCst, mVar, atI, ixN, mNeg, mNot, mNotV, mAnd, mOr, tAndM, tOrM, mFn, nFn, DL.args, argSl, given, gv1, back, bk1, Tg.bind, Tgs.bind, Tgs.len, tTrue, mAppend, mCut, mRev, mIndex, sz, partM, io_law_box, b_law_box, fLen, fLt, h, fIx, hx, fAbs, fInt, fMod, fGe, fPow, fMul, fAdd, m1, m2]
    exact ⟨_, _, 0, rfl, nn _ _ _, Int.le_refl 0, Int.le_refl 0⟩
  · have m3 : mulOk 0 0 = true := by decide
    simp [runF, DL.runN, ioOk, pad, envOf, sSeq, sRet, sRetN, sIf, sSet, sOwn, sPut, sExpr, sFor, sAug, sUnp, sPar, avs, setsE, sNext, mIf, mTru, mIsi, Opd.here, Opd.pre, Opd.post, Opd.postD, Opd.postR, view, truth, rVar, outs, mCall, preAll, postAll, DL.listOf, nLst, nLc, aNil, aCons, mTup, iData, iRange1, iRange2, DL.iZip, iEnum2, Tg.ix, Tgs.ix, notOwn, wipeE, restore, tBin, mBin, two, mCst, mVar, atI, ixN, mNeg, mNot, mNotV, mAnd, mOr, tAndM, tOrM, mFn, nFn, DL.args, argSl, given, gv1, back, bk1, Tg.bind, Tgs.bind, Tgs.len, tTrue, mAppend, mCut, mRev, mIndex, sz, partM, io_law_box, b_law_box, fLen, fLt, h, fIx, fAbs, fInt, fMod, fGe, fPow, fMul, fAdd, m1, m2, m3]
    exact ⟨_, _, 0, rfl, by decide, Int.le_refl 0, Int.le_refl 0⟩
/-! lists or tuples, drawn -/
def siz : Nat → D → Nat
  | n + 1, .list xs => 1 + (xs.map (siz n)).sum
  | n + 1, .tuple xs => 1 + (xs.map (siz n)).sum
  | _, _ => 1
theorem mixed_ok : ∀ (k : Nat) {d : D} {t : Int} {b : List D}, fit 1000 k d = true → Box t b → t + siz k d < 2 ^ 60 → ∃ y b', (sems (k + 2)).law_mixed [.own b, .d d] = some (y, [.own b', .d d]) ∧ Box (t + siz k d) b' ∧ tupD y = tupD d ∧ fit 1000 k y = true := by
  have leaf : ∀ (k : Nat) (d : D) (b : List D), isT2 "list" "tuple" d = some false → (sems (k + 2)).law_mixed [.own b, .d d] = some (d, [.own b, .d d]) := fun k d b h => by
    rw [sems_law_mixed]
    simp [runF, DL.runN, ioOk, pad, envOf, sSeq, sRet, sRetN, sIf, sSet, sOwn, sPut, sExpr, sFor, sAug, sUnp, sPar, avs, setsE, sNext, mIf, mTru, mIsi, Opd.here, Opd.pre, Opd.post, Opd.postD, Opd.postR, view, truth, rVar, outs, mCall, preAll, postAll, DL.listOf, nLst, nLc, aNil, aCons, mTup, iData, iRange1, iRange2, DL.iZip, iEnum2, Tg.ix, Tgs.ix, notOwn, wipeE, restore, tBin, mBin, two, mCst, mVar, atI, ixN, mNeg, mNot, mNotV, mAnd, mOr, tAndM, tOrM, mFn, nFn, DL.args, argSl, given, gv1, back, bk1, Tg.bind, Tgs.bind, Tgs.len, tTrue, mAppend, mCut, mRev, mIndex, sz, partM, io_law_mixed, b_law_mixed, h]
  have loop : ∀ (k : Nat) (d : D), (∀ {d : D} {t : Int} {b : List D}, fit 1000 k d = true → Box t b → t + siz k d < 2 ^ 60 → ∃ y b', (sems (k + 2)).law_mixed [.own b, .d d] = some (y, [.own b', .d d]) ∧ Box (t + siz k d) b' ∧ tupD y = tupD d ∧ fit 1000 k y = true) →
      ∀ (xs : List D) {t : Int} {b : List D}, (∀ x ∈ xs, fit 1000 k x = true) → Box t b → t + (xs.map (siz k)).sum < 2 ^ 60 → ∃ ys b', lcLoop (.nm 3) tTrue (mFn (sems (k + 2)).law_mixed [(.sl 0), (.sl 3)]) [3] xs [some (.own b), some (.d d), none, none] = some (ys, [some (.own b'), some (.d d), none, none]) ∧ Box (t + (xs.map (siz k)).sum) b' ∧ tupL ys = tupL xs ∧ ys.length = xs.length ∧ ∀ y ∈ ys, fit 1000 k y = true := by
    intro k d ih xs
    induction xs with
    | nil => intro t b _ hb _; exact ⟨[], b, rfl, by simpa using hb, rfl, rfl, fun _ h => nomatch h⟩
    | cons x xs ihx =>
      intro t b hf hb ht
      simp only [List.map_cons, List.sum_cons, Int.natCast_add] at ht ⊢
      obtain ⟨y, b1, e1, hb1, t1, f1⟩ := ih (hf x List.mem_cons_self) hb (by omega)
      obtain ⟨ys, b2, e2, hb2, t2, l2, f2⟩ := ihx (fun z hz => hf z (List.mem_cons_of_mem _ hz)) hb1 (by omega)
      refine ⟨y :: ys, b2, ?_, hb2.mono (by omega), by rw [tupL, tupL, t1, t2], by simp [l2], fun z hz => ?_⟩
      · generalize hm : lcLoop (.nm 3) tTrue (mFn (sems (k + 2)).law_mixed [(.sl 0), (.sl 3)]) [3] xs = L at e2
        unfold lcLoop
        simp [runF, DL.runN, ioOk, pad, envOf, sSeq, sRet, sRetN, sIf, sSet, sOwn, sPut, sExpr, sFor, sAug, sUnp, sPar, avs, setsE, sNext, mIf, mTru, mIsi, Opd.here, Opd.pre, Opd.post, Opd.postD, Opd.postR, view, truth, rVar, outs, mCall, preAll, postAll, DL.listOf, nLst, nLc, aNil, aCons, mTup, iData, iRange1, iRange2, DL.iZip, iEnum2, Tg.ix, Tgs.ix, notOwn, wipeE, restore, tBin, mBin, two, mCst, mVar, atI, ixN, mNeg, mNot, mNotV, mAnd, mOr, tAndM, tOrM, mFn, nFn, DL.args, argSl, given, gv1, back, bk1, Tg.bind, Tgs.bind, Tgs.len, tTrue, mAppend, mCut, mRev, mIndex, sz, partM, e1, hm, e2]
      · rcases List.mem_cons.mp hz with z' | z'
        · rw [z']; exact f1
        · exact f2 z z'
  have node : ∀ (k : Nat) (d : D) (xs ys : List D) (t : Int) (b b' : List D), isT2 "list" "tuple" d = some true → (d = .list xs ∨ d = .tuple xs) → xs.length ≤ 1000 → lcLoop (.nm 3) tTrue (mFn (sems (k + 2)).law_mixed [(.sl 0), (.sl 3)]) [3] xs [some (.own b), some (.d d), none, none] = some (ys, [some (.own b'), some (.d d), none, none]) → Box t b' → t < 2 ^ 60 →
      ∃ y b'', (sems (k + 1 + 2)).law_mixed [.own b, .d d] = some (y, [.own b'', .d d]) ∧ Box (t + 1) b'' ∧ (y = .list ys ∨ y = .tuple ys) := by
    intro k d xs ys t b b' h e hl lc hb ht
    have hs : xs.length ≤ sizeLine := size1000 hl
    obtain ⟨v, b'', e1, hb2, h0, h1⟩ := take_ok (k + 1) (n := 2) hb ht (by omega) (by omega)
    refine ⟨if v = 0 then .list ys else .tuple ys, b'', ?_, hb2, by split <;> simp⟩
    rw [sems_law_mixed]
    generalize hm : mFn (sems (k + 2)).law_mixed [(.sl 0), (.sl 3)] = m at lc
    generalize hT : tTrue = T at lc
    have fe : fEq (.int v) (.int 0) = some (.bool (decide (v = 0))) := by
      unfold fEq
      have : flatD (.int 0) = true := by decide
      simp only [this, Bool.or_true, if_true, PyData.eqv]
      by_cases h : v = 0 <;> simp [h]
    by_cases hv : v = 0
    · subst hv
      rcases e with e | e <;> subst e <;> simp [runF, DL.runN, ioOk, pad, envOf, sSeq, sRet, sRetN, sIf, sSet, sOwn, sPut, sExpr, sFor, sAug, sUnp, sPar, avs, setsE, sNext, mIf, mTru, mIsi, Opd.here, Opd.pre, Opd.post, Opd.postD, Opd.postR, view, truth, rVar, outs, mCall, preAll, postAll, DL.listOf, nLst, nLc, aNil, aCons, mTup, iData, iRange1, iRange2, DL.iZip, iEnum2, Tg.ix, Tgs.ix, notOwn, wipeE, restore, tBin, mBin, two, mCst, mVar, atI, ixN, mNeg, mNot, mNotV, mAnd, mOr, tAndM, tOrM, mFn, nFn, DL.args, argSl, given, gv1, back, bk1, Tg.bind, Tgs.bind, Tgs.len, tTrue, mAppend, mCut, mRev, mIndex, sz, partM, io_law_mixed, b_law_mixed, h, hm, hT, lc, hs, e1, fe, fTuple]
    · rcases e with e | e <;> subst e <;> simp [runF, DL.runN, ioOk, pad, envOf, sSeq, sRet, sRetN, sIf, sSet, sOwn, sPut, sExpr, sFor, sAug, sUnp, sPar, avs, setsE, sNext, mIf, mTru, mIsi, Opd.here, Opd.pre, Opd.post, Opd.postD, Opd.postR, view, truth, rVar, outs, mCall, preAll, postAll, DL.listOf, nLst, nLc, aNil, aCons, mTup, iData, iRange1, iRange2, DL.iZip, iEnum2, Tg.ix, Tgs.ix, notOwn, wipeE, restore, tBin, mBin, two, mCst, mVar, atI, ixN, mNeg, mNot, mNotV, mAnd, mOr, tAndM, tOrM, mFn, nFn, DL.args, argSl, given, gv1, back, bk1, Tg.bind, Tgs.bind, Tgs.len, tTrue, mAppend, mCut, mRev, mIndex, sz, partM, io_law_mixed, b_law_mixed, h, hm, hT, lc, hs, e1, fe, fTuple, hv]
  intro k
  induction k with
  | zero =>
    intro d t b h hb ht
    have key : isT2 "list" "tuple" d = some false := by
      cases d with
      | list xs => cases h
      | tuple xs => cases h
      | dict _ => cases h
      | none => decide
      | bool b => simp [isT2, isT]
      | int b => simp [isT2, isT]
      | str b => simp [isT2, isT]
    exact ⟨d, b, leaf 0 d b key, hb.mono (by omega), rfl, h⟩
  | succ k ih =>
    intro d t b h hb ht
    have lf : isT2 "list" "tuple" d = some false → ∃ y b', (sems (k + 1 + 2)).law_mixed [.own b, .d d] = some (y, [.own b', .d d]) ∧ Box (t + siz (k + 1) d) b' ∧ tupD y = tupD d ∧ fit 1000 (k + 1) y = true := fun key => ⟨d, b, leaf _ d b key, hb.mono (by omega), rfl, h⟩
    cases d with
    | dict _ => cases h
    | none => exact lf (by decide)
    | bool b => exact lf (by simp [isT2, isT])
    | int b => exact lf (by simp [isT2, isT])
    | str b => exact lf (by simp [isT2, isT])
    | list xs =>
      obtain ⟨j, e, h1, h2⟩ := fit_list h
      cases e
      simp only [siz, Int.natCast_add, Int.natCast_one] at ht ⊢
      obtain ⟨ys, b', lc, hb', t1, l1, f1⟩ := loop k (.list xs) ih xs h2 hb (by omega)
      obtain ⟨y, b'', e1, hb2, hy⟩ := node k _ xs ys _ b b' (by simp [isT2, isT]) (.inl rfl) h1 lc hb' (by omega)
      refine ⟨y, b'', e1, hb2.mono (by omega), ?_, ?_⟩
      · rcases hy with e | e <;> rw [e, tupD, tupD, t1]
      · rcases hy with e | e <;> rw [e]
        · exact fit_of_list (by omega) f1
        · exact fit_of_tuple (by omega) f1
    | tuple xs =>
      obtain ⟨j, e, h1, h2⟩ := fit_tuple h
      cases e
      simp only [siz, Int.natCast_add, Int.natCast_one] at ht ⊢
      obtain ⟨ys, b', lc, hb', t1, l1, f1⟩ := loop k (.tuple xs) ih xs h2 hb (by omega)
      obtain ⟨y, b'', e1, hb2, hy⟩ := node k _ xs ys _ b b' (by simp [isT2, isT]) (.inr rfl) h1 lc hb' (by omega)
      refine ⟨y, b'', e1, hb2.mono (by omega), ?_, ?_⟩
      · rcases hy with e | e <;> rw [e, tupD, tupD, t1]
      · rcases hy with e | e <;> rw [e]
        · exact fit_of_list (by omega) f1
        · exact fit_of_tuple (by omega) f1
end K06

namespace K06
open PySem PySem.Spec L2 DL
theorem fEq_refl {n : Nat} {d : D} (hn : n ≤ 60) (h : fit 1000 n d = true) : fEq d d = some (.bool true) := by
  unfold fEq
  rw [fit_flat hn h, eqv_refl h]
  rfl
theorem boolsOf_true : ∀ n : Nat, boolsOf (List.replicate n (.bool true)) = some (List.replicate n true)
  | 0 => rfl
  | n + 1 => by
    rw [List.replicate_succ, boolsOf, boolsOf_true n]
    rfl
theorem pairD_same : ∀ xs : List D, pairD xs xs = xs.map fun x => .tuple [x, x]
  | [] => rfl
  | x :: xs => by rw [pairD, pairD_same xs]; rfl
theorem same_refl : ∀ (k : Nat) {d : D}, k ≤ 60 → fit 1000 k d = true → (sems (k + 1)).law_same [.d d, .d d] = some (.bool true, [.d d, .d d]) := by
  have node : ∀ (k : Nat) (d : D) (xs : List D), isT2 "list" "tuple" d = some true → (d = .list xs ∨ d = .tuple xs) → xs.length ≤ 1000 → (∀ x ∈ xs, (sems (k + 1)).law_same [.d x, .d x] = some (.bool true, [.d x, .d x])) → (sems (k + 1 + 1)).law_same [.d d, .d d] = some (.bool true, [.d d, .d d]) := fun k d xs h e hl ih => by
    rw [sems_law_same]
    have lc : lcLoop (.tup (.cons (.nm 3) (.cons (.nm 4) .nil))) tTrue (mFn (sems (k + 1)).law_same [(.sl 3), (.sl 4)]) [3, 4] (pairD xs xs) [some (.d d), some (.d d), none, none, none] = some ((pairD xs xs).map fun _ => .bool true, [some (.d d), some (.d d), none, none, none]) := lc_map (fun _ => .bool true) fun p hp => by
      rw [pairD_same] at hp
      obtain ⟨x, hx, rfl⟩ := List.mem_map.mp hp
      exact ⟨[some (.d d), some (.d d), none, some (.d x), some (.d x)], by simp [runF, DL.runN, ioOk, pad, envOf, sSeq, sRet, sRetN, sIf, sSet, sOwn, sPut, sExpr, sFor, sAug, sUnp, sPar, avs, setsE, sNext, mIf, mTru, mIsi, Opd.here, Opd.pre, Opd.post, Opd.postD, Opd.postR, view, truth, rVar, outs, mCall, preAll, postAll, DL.listOf, nLst, nLc, aNil, aCons, mTup, iData, iRange1, iRange2, DL.iZip, iEnum2, Tg.ix, Tgs.ix, notOwn, wipeE, restore, tBin, mBin, two, mCst, mVar, atI, ixN, mNeg, mNot, mNotV, mAnd, mOr, tAndM, tOrM, mFn, nFn, DL.args, argSl, given, gv1, back, bk1, Tg.bind, Tgs.bind, Tgs.len, tTrue, mAppend, mCut, mRev, mIndex, sz, partM], by simp [runF, DL.runN, ioOk, pad, envOf, sSeq, sRet, sRetN, sIf, sSet, sOwn, sPut, sExpr, sFor, sAug, sUnp, sPar, avs, setsE, sNext, mIf, mTru, mIsi, Opd.here, Opd.pre, Opd.post, Opd.postD, Opd.postR, view, truth, rVar, outs, mCall, preAll, postAll, DL.listOf, nLst, nLc, aNil, aCons, mTup, iData, iRange1, iRange2, DL.iZip, iEnum2, Tg.ix, Tgs.ix, notOwn, wipeE, restore, tBin, mBin, two, mCst, mVar, atI, ixN, mNeg, mNot, mNotV, mAnd, mOr, tAndM, tOrM, mFn, nFn, DL.args, argSl, given, gv1, back, bk1, Tg.bind, Tgs.bind, Tgs.len, tTrue, mAppend, mCut, mRev, mIndex, sz, partM, ih x hx], by simp [runF, DL.runN, ioOk, pad, envOf, sSeq, sRet, sRetN, sIf, sSet, sOwn, sPut, sExpr, sFor, sAug, sUnp, sPar, avs, setsE, sNext, mIf, mTru, mIsi, Opd.here, Opd.pre, Opd.post, Opd.postD, Opd.postR, view, truth, rVar, outs, mCall, preAll, postAll, DL.listOf, nLst, nLc, aNil, aCons, mTup, iData, iRange1, iRange2, DL.iZip, iEnum2, Tg.ix, Tgs.ix, notOwn, wipeE, restore, tBin, mBin, two, mCst, mVar, atI, ixN, mNeg, mNot, mNotV, mAnd, mOr, tAndM, tOrM, mFn, nFn, DL.args, argSl, given, gv1, back, bk1, Tg.bind, Tgs.bind, Tgs.len, tTrue, mAppend, mCut, mRev, mIndex, sz, partM]⟩
    have e2 : (pairD xs xs).map (fun _ => PyData.bool true) = List.replicate xs.length (.bool true) := by rw [pairD_same, List.map_map]; exact List.map_eq_replicate_iff.mpr fun _ _ => rfl
    have hs : xs.length ≤ sizeLine := size1000 hl
    have hp : (pairD xs xs).length ≤ sizeLine := by rw [pairD_same, List.length_map]; exact hs
    rw [e2] at lc
    have b1 : boolsOf (List.replicate xs.length (.bool true)) = some (List.replicate xs.length true) := boolsOf_true _
    have fe : ∀ i : Int, fEq (.int i) (.int i) = some (.bool true) := fun i => fEq_refl (n := 0) (by omega) rfl
    have fn : ∀ b : Bool, fNe (.bool b) (.bool b) = some (.bool false) := fun b => by cases b <;> rfl
    generalize hm : mFn (sems (k + 1)).law_same [(.sl 3), (.sl 4)] = m at lc
    generalize hT : tTrue = T at lc
    generalize hP : pairD xs xs = ps at lc hp
    rcases e with e | e <;> subst e <;> simp [runF, DL.runN, ioOk, pad, envOf, sSeq, sRet, sRetN, sIf, sSet, sOwn, sPut, sExpr, sFor, sAug, sUnp, sPar, avs, setsE, sNext, mIf, mTru, mIsi, Opd.here, Opd.pre, Opd.post, Opd.postD, Opd.postR, view, truth, rVar, outs, mCall, preAll, postAll, DL.listOf, nLst, nLc, aNil, aCons, mTup, iData, iRange1, iRange2, DL.iZip, iEnum2, Tg.ix, Tgs.ix, notOwn, wipeE, restore, tBin, mBin, two, mCst, mVar, atI, ixN, mNeg, mNot, mNotV, mAnd, mOr, tAndM, tOrM, mFn, nFn, DL.args, argSl, given, gv1, back, bk1, Tg.bind, Tgs.bind, Tgs.len, tTrue, mAppend, mCut, mRev, mIndex, sz, partM, io_law_same, b_law_same, h, hm, hT, hP, lc, hs, hp, fe, fn, isT, fLen, fAll, b1]
  have lf1 : ∀ (k : Nat) (d : D), isT2 "list" "tuple" d = some false → fEq d d = some (.bool true) → (d = .none ∨ (∃ b, d = .bool b) ∨ ∃ x, d = .str x) → (sems (k + 1)).law_same [.d d, .d d] = some (.bool true, [.d d, .d d]) := fun k d h fe e => by
    rw [sems_law_same]
    have fb : ∀ b : Bool, fEq (.bool b) (.bool b) = some (.bool true) := fun b => by cases b <;> rfl
    rcases e with rfl | ⟨b, rfl⟩ | ⟨x, rfl⟩ <;> simp [runF, DL.runN, ioOk, pad, envOf, sSeq, sRet, sRetN, sIf, sSet, sOwn, sPut, sExpr, sFor, sAug, sUnp, sPar, avs, setsE, sNext, mIf, mTru, mIsi, Opd.here, Opd.pre, Opd.post, Opd.postD, Opd.postR, view, truth, rVar, outs, mCall, preAll, postAll, DL.listOf, nLst, nLc, aNil, aCons, mTup, iData, iRange1, iRange2, DL.iZip, iEnum2, Tg.ix, Tgs.ix, notOwn, wipeE, restore, tBin, mBin, two, mCst, mVar, atI, ixN, mNeg, mNot, mNotV, mAnd, mOr, tAndM, tOrM, mFn, nFn, DL.args, argSl, given, gv1, back, bk1, Tg.bind, Tgs.bind, Tgs.len, tTrue, mAppend, mCut, mRev, mIndex, sz, partM, io_law_same, b_law_same, h, fe, fb, isT, isT2, fIs, isNone]
  have lf2 : ∀ (k : Nat) (i : Int), (sems (k + 1)).law_same [.d (.int i), .d (.int i)] = some (.bool true, [.d (.int i), .d (.int i)]) := fun k i => by
    rw [sems_law_same]
    have fe : ∀ i : Int, fEq (.int i) (.int i) = some (.bool true) := fun i => fEq_refl (n := 0) (by omega) rfl
    simp [runF, DL.runN, ioOk, pad, envOf, sSeq, sRet, sRetN, sIf, sSet, sOwn, sPut, sExpr, sFor, sAug, sUnp, sPar, avs, setsE, sNext, mIf, mTru, mIsi, Opd.here, Opd.pre, Opd.post, Opd.postD, Opd.postR, view, truth, rVar, outs, mCall, preAll, postAll, DL.listOf, nLst, nLc, aNil, aCons, mTup, iData, iRange1, iRange2, DL.iZip, iEnum2, Tg.ix, Tgs.ix, notOwn, wipeE, restore, tBin, mBin, two, mCst, mVar, atI, ixN, mNeg, mNot, mNotV, mAnd, mOr, tAndM, tOrM, mFn, nFn, DL.args, argSl, given, gv1, back, bk1, Tg.bind, Tgs.bind, Tgs.len, tTrue, mAppend, mCut, mRev, mIndex, sz, partM, io_law_same, b_law_same, fe, isT, isT2, fIs, isNone]
  have leaf : ∀ (k : Nat) (n : Nat) (d : D), n ≤ 60 → fit 1000 n d = true → isT2 "list" "tuple" d = some false → (sems (k + 1)).law_same [.d d, .d d] = some (.bool true, [.d d, .d d]) := fun k n d hn hf h => by
    cases d with
    | none => exact lf1 k _ h (fEq_refl hn hf) (.inl rfl)
    | bool b => exact lf1 k _ h (fEq_refl hn hf) (.inr (.inl ⟨b, rfl⟩))
    | str b => exact lf1 k _ h (fEq_refl hn hf) (.inr (.inr ⟨b, rfl⟩))
    | int i => exact lf2 k i
    | list xs => simp [isT2, isT] at h
    | tuple xs => simp [isT2, isT] at h
    | dict _ => exact (fit_dict hf).elim
  intro k
  induction k with
  | zero =>
    intro d hk h
    cases d with
    | list xs => cases h
    | tuple xs => cases h
    | dict _ => cases h
    | none => exact leaf 0 0 _ hk h (by decide)
    | bool b => exact leaf 0 0 _ hk h (by simp [isT2, isT])
    | int b => exact leaf 0 0 _ hk h (by simp [isT2, isT])
    | str b => exact leaf 0 0 _ hk h (by simp [isT2, isT])
  | succ k ih =>
    intro d hk h
    cases d with
    | dict _ => cases h
    | none => exact leaf _ _ _ hk h (by decide)
    | bool b => exact leaf _ _ _ hk h (by simp [isT2, isT])
    | int b => exact leaf _ _ _ hk h (by simp [isT2, isT])
    | str b => exact leaf _ _ _ hk h (by simp [isT2, isT])
    | list xs =>
      obtain ⟨j, e, h1, h2⟩ := fit_list h
      cases e
      exact node k _ xs (by simp [isT2, isT]) (.inl rfl) h1 fun x hx => ih (by omega) (h2 x hx)
    | tuple xs =>
      obtain ⟨j, e, h1, h2⟩ := fit_tuple h
      cases e
      exact node k _ xs (by simp [isT2, isT]) (.inr rfl) h1 fun x hx => ih (by omega) (h2 x hx)
end K06

namespace K06
open PySem PySem.Spec L2 DL
/-! pairs of an event and what is told -/
def mkP (p : Str × List D × D) : D := .tuple [.tuple (.str p.1 :: p.2.1), p.2.2]
abbrev Pr := Str × List D × D
abbrev wReap : Str := Str.ofString "reap"
abbrev wQuiet : Str := Str.ofString "quiet"
/-- where the reaps at the end begin -/
def cut (ps : List Pr) : Nat → Nat
  | 0 => 0
  | n + 1 => match ps[n]? with
    | some p => if p.1 == wReap then cut ps n else n + 1
    | none => n + 1
def nil? (d : D) : Bool := PyData.eqv d (.tuple [])
def closedB (ps : List Pr) : Bool :=
  let j := cut ps ps.length
  if j = 0 then false else match ps[j - 1]? with
  | some p => if p.1 == wQuiet then (match ((ps.drop j).map (·.2.2)).getLast? with
    | some t => nil? t && ((ps.drop j).map (·.2.2)).dropLast.all (fun t => !nil? t)
    | none => false) else false
  | none => false
theorem cut_succ {ps : List Pr} {n : Nat} {p : Pr} (h : ps[n]? = some p) : cut ps (n + 1) = if p.1 == wReap then cut ps n else n + 1 := by
  rw [cut, h]
theorem cut_le (ps : List Pr) : ∀ n, cut ps n ≤ n
  | 0 => Nat.le_refl 0
  | n + 1 => by
    unfold cut
    split
    · split
      · exact Nat.le_succ_of_le (cut_le ps n)
      · exact Nat.le_refl _
    · exact Nat.le_refl _
theorem flat_nil : flatD (.tuple []) = true := rfl
/-- the loop of is_closed -/
theorem while_ok {h : Sl} {ps : List Pr} {C : ST} {M : SS} (hC : C = (tAndM (tBin true (.sl 2) (.ex (mCst (.int 0))) fGt) (tBin true (.ex (mBin true (.ex (mBin true (.ex (mBin true (.sl 1) (.ex (mBin false (.sl 2) (.ex (mCst (.int 1))) fSub)) fIx)) (.ex (mCst (.int 0))) fIx)) (.ex (mCst (.int 0))) fIx)) (.ex (mCst (.str (Str.ofString "reap")))) fEq))) (hM : M = (sSeq (sAug 2 (mCst (.int 1)) gSub) sNext)) :
    ∀ (n fuel : Nat), n ≤ ps.length → n < fuel → whileL C M fuel [some h, some (.d (.tuple (ps.map mkP))), some (.d (.int n)), none, none, none] = some (.nx, [some h, some (.d (.tuple (ps.map mkP))), some (.d (.int (cut ps n))), none, none, none])
  | 0, fuel + 1, _, _ => by
    have e : C [some h, some (.d (.tuple (ps.map mkP))), some (.d (.int (0 : Nat))), none, none, none] = some (false, [some h, some (.d (.tuple (ps.map mkP))), some (.d (.int (0 : Nat))), none, none, none]) := by
      subst hC
      simp [runF, DL.runN, ioOk, pad, envOf, sSeq, sRet, sRetN, sIf, sSet, sOwn, sPut, sExpr, sFor, sAug, sUnp, sPar, avs, setsE, sNext, mIf, mTru, mIsi, Opd.here, Opd.pre, Opd.post, Opd.postD, Opd.postR, view, truth, rVar, outs, mCall, preAll, postAll, DL.listOf, nLst, nLc, aNil, aCons, mTup, iData, iRange1, iRange2, DL.iZip, iEnum2, Tg.ix, Tgs.ix, notOwn, wipeE, restore, tBin, mBin, two, mCst, mVar, at0, at1, at2, mNeg, mNot, mNotV, mAnd, mOr, tAndM, tOrM, mFn, nFn, DL.args, argSl, given, gv1, back, bk1, Tg.bind, Tgs.bind, Tgs.len, tTrue, mAppend, mCut, mRev, mIndex, sz, partM, fGt]
    unfold whileL
    rw [e]
    rfl
  | n + 1, fuel + 1, hn, hf => by
    have hx : ps[n]? = some (ps[n]'(by omega)) := List.getElem?_eq_getElem (by omega)
    generalize ps[n]'(by omega) = p at hx
    have hx2 : atI (ps.map mkP) ((n : Nat) : Int) = some (mkP p) := atN _ _ _ (by rw [List.getElem?_map, hx]; rfl)
    have e : C [some h, some (.d (.tuple (ps.map mkP))), some (.d (.int (n + 1 : Nat))), none, none, none] = some (p.1 == wReap, [some h, some (.d (.tuple (ps.map mkP))), some (.d (.int (n + 1 : Nat))), none, none, none]) := by
      subst hC
      have e1 : (((n + 1 : Nat) : Int) - 1) = ((n : Nat) : Int) := by omega
      have e2 : ((0 : Int) < ((n + 1 : Nat) : Int)) = True := eq_true (by omega)
      simp [runF, DL.runN, ioOk, pad, envOf, sSeq, sRet, sRetN, sIf, sSet, sOwn, sPut, sExpr, sFor, sAug, sUnp, sPar, avs, setsE, sNext, mIf, mTru, mIsi, Opd.here, Opd.pre, Opd.post, Opd.postD, Opd.postR, view, truth, rVar, outs, mCall, preAll, postAll, DL.listOf, nLst, nLc, aNil, aCons, mTup, iData, iRange1, iRange2, DL.iZip, iEnum2, Tg.ix, Tgs.ix, notOwn, wipeE, restore, tBin, mBin, two, mCst, mVar, at0, at1, at2, mNeg, mNot, mNotV, mAnd, mOr, tAndM, tOrM, mFn, nFn, DL.args, argSl, given, gv1, back, bk1, Tg.bind, Tgs.bind, Tgs.len, tTrue, mAppend, mCut, mRev, mIndex, sz, partM, fGt, fSub, fIx, fEq_str, -Int.natCast_add, e1, e2, hx2, mkP]
    unfold whileL
    rw [e]
    cases hp : (p.1 == wReap) with
    | false =>
      rw [cut_succ hx, hp]
      rfl
    | true =>
      have e2 : M [some h, some (.d (.tuple (ps.map mkP))), some (.d (.int (n + 1 : Nat))), none, none, none] = some (.nx, [some h, some (.d (.tuple (ps.map mkP))), some (.d (.int (n : Nat))), none, none, none]) := by
        subst hM
        have e1 : (((n + 1 : Nat) : Int) - 1) = ((n : Nat) : Int) := by omega
        simp [runF, DL.runN, ioOk, pad, envOf, sSeq, sRet, sRetN, sIf, sSet, sOwn, sPut, sExpr, sFor, sAug, sUnp, sPar, avs, setsE, sNext, mIf, mTru, mIsi, Opd.here, Opd.pre, Opd.post, Opd.postD, Opd.postR, view, truth, rVar, outs, mCall, preAll, postAll, DL.listOf, nLst, nLc, aNil, aCons, mTup, iData, iRange1, iRange2, DL.iZip, iEnum2, Tg.ix, Tgs.ix, notOwn, wipeE, restore, tBin, mBin, two, mCst, mVar, at0, at1, at2, mNeg, mNot, mNotV, mAnd, mOr, tAndM, tOrM, mFn, nFn, DL.args, argSl, given, gv1, back, bk1, Tg.bind, Tgs.bind, Tgs.len, tTrue, mAppend, mCut, mRev, mIndex, sz, partM, DL.gSub, -Int.natCast_add, e1]
      simp only
      rw [e2]
      simp only
      rw [while_ok hC hM n fuel (by omega) (by omega)]
      rw [cut_succ hx, hp]
      rfl
def tl : D → D
  | .tuple [_, t] => t
  | d => d
theorem seq_nx {m n : SS} {r r1 : DL.Env} (h : m r = some (.nx, r1)) : sSeq m n r = n r1 := by
  unfold sSeq
  rw [h]
theorem seq_ret {m n : SS} {r r1 : DL.Env} {d : D} (h : m r = some (.ret d, r1)) : sSeq m n r = some (.ret d, r1) := by
  unfold sSeq
  rw [h]
theorem run_of {n : Nat} {io : List Nat} {m : SS} {as bs : List Sl} {d : D} {r : DL.Env} (h1 : ioOk io 0 as = true) (h2 : m (pad n as) = some (.ret d, r)) (h3 : outs r 0 as = some bs) : runF n io m as = some (d, bs) := by
  unfold runF
  rw [if_pos h1, h2]
  simp only
  rw [h3]
theorem closed_ok (k n : Nat) {y : D} {ps : List Pr} (hn : n ≤ k) (hf : fit 1000 n y = true) (ht : tupD y = .tuple (ps.map mkP)) (hl : ps.length ≤ 1000) : (sems (k + 2)).is_closed [.d y] = some (.bool (closedB ps), [.d y]) := by
  have e1 := tupled_ok k (fit_mono hn hf)
  rw [ht] at e1
  rw [sems_is_closed]
  generalize hj : cut ps ps.length = j
  have hjl : j ≤ ps.length := hj ▸ cut_le ps ps.length
  have wh := while_ok (h := .d y) (ps := ps) rfl rfl ps.length 100000 (Nat.le_refl _) (by omega)
  rw [hj] at wh
  have lc : lcLoop (.tup (.cons (.nm 4) (.cons (.nm 5) .nil))) tTrue (mVar 5) [4, 5] ((ps.drop j).map mkP) [some (.d y), some (.d (.tuple (ps.map mkP))), some (.d (.int j)), none, none, none] = some (((ps.drop j).map mkP).map tl, [some (.d y), some (.d (.tuple (ps.map mkP))), some (.d (.int j)), none, none, none]) := lc_map tl fun p hp => by
    obtain ⟨q, _, rfl⟩ := List.mem_map.mp hp
    exact ⟨[some (.d y), some (.d (.tuple (ps.map mkP))), some (.d (.int j)), none, some (.d (.tuple (.str q.1 :: q.2.1))), some (.d q.2.2)], by simp [runF, DL.runN, ioOk, pad, envOf, sSeq, sRet, sRetN, sIf, sSet, sOwn, sPut, sExpr, sFor, sAug, sUnp, sPar, avs, setsE, sNext, mIf, mTru, mIsi, Opd.here, Opd.pre, Opd.post, Opd.postD, Opd.postR, view, truth, rVar, outs, mCall, preAll, postAll, DL.listOf, nLst, nLc, aNil, aCons, mTup, iData, iRange1, iRange2, DL.iZip, iEnum2, Tg.ix, Tgs.ix, notOwn, wipeE, restore, tBin, mBin, two, mCst, mVar, atI, ixN, mNeg, mNot, mNotV, mAnd, mOr, tAndM, tOrM, mFn, nFn, DL.args, argSl, given, gv1, back, bk1, Tg.bind, Tgs.bind, Tgs.len, tTrue, mAppend, mCut, mRev, mIndex, sz, partM, mkP], by simp [runF, DL.runN, ioOk, pad, envOf, sSeq, sRet, sRetN, sIf, sSet, sOwn, sPut, sExpr, sFor, sAug, sUnp, sPar, avs, setsE, sNext, mIf, mTru, mIsi, Opd.here, Opd.pre, Opd.post, Opd.postD, Opd.postR, view, truth, rVar, outs, mCall, preAll, postAll, DL.listOf, nLst, nLc, aNil, aCons, mTup, iData, iRange1, iRange2, DL.iZip, iEnum2, Tg.ix, Tgs.ix, notOwn, wipeE, restore, tBin, mBin, two, mCst, mVar, atI, ixN, mNeg, mNot, mNotV, mAnd, mOr, tAndM, tOrM, mFn, nFn, DL.args, argSl, given, gv1, back, bk1, Tg.bind, Tgs.bind, Tgs.len, tTrue, mAppend, mCut, mRev, mIndex, sz, partM, mkP, tl], by simp [runF, DL.runN, ioOk, pad, envOf, sSeq, sRet, sRetN, sIf, sSet, sOwn, sPut, sExpr, sFor, sAug, sUnp, sPar, avs, setsE, sNext, mIf, mTru, mIsi, Opd.here, Opd.pre, Opd.post, Opd.postD, Opd.postR, view, truth, rVar, outs, mCall, preAll, postAll, DL.listOf, nLst, nLc, aNil, aCons, mTup, iData, iRange1, iRange2, DL.iZip, iEnum2, Tg.ix, Tgs.ix, notOwn, wipeE, restore, tBin, mBin, two, mCst, mVar, atI, ixN, mNeg, mNot, mNotV, mAnd, mOr, tAndM, tOrM, mFn, nFn, DL.args, argSl, given, gv1, back, bk1, Tg.bind, Tgs.bind, Tgs.len, tTrue, mAppend, mCut, mRev, mIndex, sz, partM]⟩
  have et : ((ps.drop j).map mkP).map tl = (ps.drop j).map (·.2.2) := by rw [List.map_map]; rfl
  rw [et] at lc
  have hs : ((ps.drop j).map mkP).length ≤ sizeLine := by rw [List.length_map, List.length_drop]; exact size1000 (by omega)
  have hd : (ps.map mkP).drop j = (ps.drop j).map mkP := by rw [List.map_drop]
  refine run_of (r := [some (.d y), some (.d (.tuple (ps.map mkP))), some (.d (.int j)), some (.d (.list ((ps.drop j).map (·.2.2)))), none, none]) rfl ?_ rfl
  unfold b_is_closed
  rw [seq_nx (r1 := [some (.d y), some (.d (.tuple (ps.map mkP))), none, none, none, none]) (by simp [runF, DL.runN, ioOk, pad, envOf, sSeq, sRet, sRetN, sIf, sSet, sOwn, sPut, sExpr, sFor, sAug, sUnp, sPar, avs, setsE, sNext, mIf, mTru, mIsi, Opd.here, Opd.pre, Opd.post, Opd.postD, Opd.postR, view, truth, rVar, outs, mCall, preAll, postAll, DL.listOf, nLst, nLc, aNil, aCons, mTup, iData, iRange1, iRange2, DL.iZip, iEnum2, Tg.ix, Tgs.ix, notOwn, wipeE, restore, tBin, mBin, two, mCst, mVar, atI, ixN, mNeg, mNot, mNotV, mAnd, mOr, tAndM, tOrM, mFn, nFn, DL.args, argSl, given, gv1, back, bk1, Tg.bind, Tgs.bind, Tgs.len, tTrue, mAppend, mCut, mRev, mIndex, sz, partM, e1])]
  rw [seq_nx (r1 := [some (.d y), some (.d (.tuple (ps.map mkP))), some (.d (.int ps.length)), none, none, none]) (by simp [runF, DL.runN, ioOk, pad, envOf, sSeq, sRet, sRetN, sIf, sSet, sOwn, sPut, sExpr, sFor, sAug, sUnp, sPar, avs, setsE, sNext, mIf, mTru, mIsi, Opd.here, Opd.pre, Opd.post, Opd.postD, Opd.postR, view, truth, rVar, outs, mCall, preAll, postAll, DL.listOf, nLst, nLc, aNil, aCons, mTup, iData, iRange1, iRange2, DL.iZip, iEnum2, Tg.ix, Tgs.ix, notOwn, wipeE, restore, tBin, mBin, two, mCst, mVar, atI, ixN, mNeg, mNot, mNotV, mAnd, mOr, tAndM, tOrM, mFn, nFn, DL.args, argSl, given, gv1, back, bk1, Tg.bind, Tgs.bind, Tgs.len, tTrue, mAppend, mCut, mRev, mIndex, sz, partM, fLen])]
  rw [seq_nx wh]
  rw [seq_nx (r1 := [some (.d y), some (.d (.tuple (ps.map mkP))), some (.d (.int j)), some (.d (.list ((ps.drop j).map (·.2.2)))), none, none]) (by
    generalize hm : mVar 5 = m at lc
    generalize hT : tTrue = T at lc
    generalize hG : ((ps.drop j).map mkP) = G at lc hs hd
    generalize (ps.drop j).map (·.2.2) = R at lc
    simp [runF, DL.runN, ioOk, pad, envOf, sSeq, sRet, sRetN, sIf, sSet, sOwn, sPut, sExpr, sFor, sAug, sUnp, sPar, avs, setsE, sNext, mIf, mTru, mIsi, Opd.here, Opd.pre, Opd.post, Opd.postD, Opd.postR, view, truth, rVar, outs, mCall, preAll, postAll, DL.listOf, nLst, nLc, aNil, aCons, mTup, iData, iRange1, iRange2, DL.iZip, iEnum2, Tg.ix, Tgs.ix, notOwn, wipeE, restore, tBin, mBin, two, mCst, mVar, atI, ixN, mNeg, mNot, mNotV, mAnd, mOr, tAndM, tOrM, mFn, nFn, DL.args, argSl, given, gv1, back, bk1, Tg.bind, Tgs.bind, Tgs.len, tTrue, mAppend, mCut, mRev, mIndex, sz, partM, fCut, cut_from, hd, hm, hT, lc, hs])]
  generalize hR : (ps.drop j).map (·.2.2) = R
  have eR : ps.length - j = R.length := by rw [← hR, List.length_map, List.length_drop]
  unfold closedB
  rw [hj]
  simp only
  by_cases j0 : j = 0
  · rw [if_pos j0]
    subst j0
    rw [seq_ret (r1 := [some (.d y), some (.d (.tuple (ps.map mkP))), some (.d (.int (0 : Nat))), some (.d (.list R)), none, none]) (d := .bool false) (by simp [runF, DL.runN, ioOk, pad, envOf, sSeq, sRet, sRetN, sIf, sSet, sOwn, sPut, sExpr, sFor, sAug, sUnp, sPar, avs, setsE, sNext, mIf, mTru, mIsi, Opd.here, Opd.pre, Opd.post, Opd.postD, Opd.postR, view, truth, rVar, outs, mCall, preAll, postAll, DL.listOf, nLst, nLc, aNil, aCons, mTup, iData, iRange1, iRange2, DL.iZip, iEnum2, Tg.ix, Tgs.ix, notOwn, wipeE, restore, tBin, mBin, two, mCst, mVar, atI, ixN, mNeg, mNot, mNotV, mAnd, mOr, tAndM, tOrM, mFn, nFn, DL.args, argSl, given, gv1, back, bk1, Tg.bind, Tgs.bind, Tgs.len, tTrue, mAppend, mCut, mRev, mIndex, sz, partM, fEq_int])]
  · rw [if_neg j0]
    have hx : ps[j - 1]? = some (ps[j - 1]'(by omega)) := List.getElem?_eq_getElem (by omega)
    generalize ps[j - 1]'(by omega) = p at hx
    rw [hx]
    have hx2 : atI (ps.map mkP) (((j - 1 : Nat) : Nat) : Int) = some (mkP p) := atN _ _ _ (by rw [List.getElem?_map, hx]; rfl)
    have ej : ((j : Int) - 1) = ((j - 1 : Nat) : Int) := by omega
    have ej0 : ((j : Int) = 0) = False := eq_false (by omega)
    cases hq : (p.1 == wQuiet) with
    | false =>
      rw [seq_ret (r1 := [some (.d y), some (.d (.tuple (ps.map mkP))), some (.d (.int j)), some (.d (.list R)), none, none]) (d := .bool false) (by simp [runF, DL.runN, ioOk, pad, envOf, sSeq, sRet, sRetN, sIf, sSet, sOwn, sPut, sExpr, sFor, sAug, sUnp, sPar, avs, setsE, sNext, mIf, mTru, mIsi, Opd.here, Opd.pre, Opd.post, Opd.postD, Opd.postR, view, truth, rVar, outs, mCall, preAll, postAll, DL.listOf, nLst, nLc, aNil, aCons, mTup, iData, iRange1, iRange2, DL.iZip, iEnum2, Tg.ix, Tgs.ix, notOwn, wipeE, restore, tBin, mBin, two, mCst, mVar, at0, at1, at2, mNeg, mNot, mNotV, mAnd, mOr, tAndM, tOrM, mFn, nFn, DL.args, argSl, given, gv1, back, bk1, Tg.bind, Tgs.bind, Tgs.len, tTrue, mAppend, mCut, mRev, mIndex, sz, partM, fEq_int, fNe_str, ej, ej0, j0, fSub, fIx, hx2, mkP, hq])]
      simp only [hq, if_neg Bool.false_ne_true]
    | true =>
      rw [hR]
      simp only [hq, if_true]
      cases hL : R.getLast? with
      | none =>
        have : R = [] := List.getLast?_eq_none_iff.mp hL
        subst this
        rw [seq_ret (r1 := [some (.d y), some (.d (.tuple (ps.map mkP))), some (.d (.int j)), some (.d (.list [])), none, none]) (d := .bool false) (by simp [runF, DL.runN, ioOk, pad, envOf, sSeq, sRet, sRetN, sIf, sSet, sOwn, sPut, sExpr, sFor, sAug, sUnp, sPar, avs, setsE, sNext, mIf, mTru, mIsi, Opd.here, Opd.pre, Opd.post, Opd.postD, Opd.postR, view, truth, rVar, outs, mCall, preAll, postAll, DL.listOf, nLst, nLc, aNil, aCons, mTup, iData, iRange1, iRange2, DL.iZip, iEnum2, Tg.ix, Tgs.ix, notOwn, wipeE, restore, tBin, mBin, two, mCst, mVar, at0, at1, at2, mNeg, mNot, mNotV, mAnd, mOr, tAndM, tOrM, mFn, nFn, DL.args, argSl, given, gv1, back, bk1, Tg.bind, Tgs.bind, Tgs.len, tTrue, mAppend, mCut, mRev, mIndex, sz, partM, fEq_int, fNe_str, ej, ej0, j0, fSub, fIx, hx2, mkP, hq, fLen])]
      | some t =>
        have hne2 : R ≠ [] := fun e => by subst e; cases hL
        have hne : (((R.length : Nat) : Int) = 0) = False := eq_false (by
          have : R ≠ [] := fun e => by subst e; cases hL
          have := List.length_pos_iff.mpr this
          omega)
        rw [seq_nx (r1 := [some (.d y), some (.d (.tuple (ps.map mkP))), some (.d (.int j)), some (.d (.list R)), none, none]) (by simp [runF, DL.runN, ioOk, pad, envOf, sSeq, sRet, sRetN, sIf, sSet, sOwn, sPut, sExpr, sFor, sAug, sUnp, sPar, avs, setsE, sNext, mIf, mTru, mIsi, Opd.here, Opd.pre, Opd.post, Opd.postD, Opd.postR, view, truth, rVar, outs, mCall, preAll, postAll, DL.listOf, nLst, nLc, aNil, aCons, mTup, iData, iRange1, iRange2, DL.iZip, iEnum2, Tg.ix, Tgs.ix, notOwn, wipeE, restore, tBin, mBin, two, mCst, mVar, at0, at1, at2, mNeg, mNot, mNotV, mAnd, mOr, tAndM, tOrM, mFn, nFn, DL.args, argSl, given, gv1, back, bk1, Tg.bind, Tgs.bind, Tgs.len, tTrue, mAppend, mCut, mRev, mIndex, sz, partM, fEq_int, fNe_str, ej, ej0, j0, fSub, fIx, hx2, mkP, hq, fLen, hne, hne2])]
        have hD : R.dropLast.length ≤ sizeLine := by rw [List.length_dropLast, ← eR]; exact size1000 (by omega)
        have lc2 : lcLoop (.nm 5) tTrue (mBin true (.sl 5) (.ex (mTup aNil)) fNe) [5] R.dropLast [some (.d y), some (.d (.tuple (ps.map mkP))), some (.d (.int j)), some (.d (.list R)), none, none] = some (R.dropLast.map fun t => .bool (!nil? t), [some (.d y), some (.d (.tuple (ps.map mkP))), some (.d (.int j)), some (.d (.list R)), none, none]) := lc_map (fun t => .bool (!nil? t)) fun x _ => ⟨[some (.d y), some (.d (.tuple (ps.map mkP))), some (.d (.int j)), some (.d (.list R)), none, some (.d x)], by simp [runF, DL.runN, ioOk, pad, envOf, sSeq, sRet, sRetN, sIf, sSet, sOwn, sPut, sExpr, sFor, sAug, sUnp, sPar, avs, setsE, sNext, mIf, mTru, mIsi, Opd.here, Opd.pre, Opd.post, Opd.postD, Opd.postR, view, truth, rVar, outs, mCall, preAll, postAll, DL.listOf, nLst, nLc, aNil, aCons, mTup, iData, iRange1, iRange2, DL.iZip, iEnum2, Tg.ix, Tgs.ix, notOwn, wipeE, restore, tBin, mBin, two, mCst, mVar, atI, ixN, mNeg, mNot, mNotV, mAnd, mOr, tAndM, tOrM, mFn, nFn, DL.args, argSl, given, gv1, back, bk1, Tg.bind, Tgs.bind, Tgs.len, tTrue, mAppend, mCut, mRev, mIndex, sz, partM], by simp [runF, DL.runN, ioOk, pad, envOf, sSeq, sRet, sRetN, sIf, sSet, sOwn, sPut, sExpr, sFor, sAug, sUnp, sPar, avs, setsE, sNext, mIf, mTru, mIsi, Opd.here, Opd.pre, Opd.post, Opd.postD, Opd.postR, view, truth, rVar, outs, mCall, preAll, postAll, DL.listOf, nLst, nLc, aNil, aCons, mTup, iData, iRange1, iRange2, DL.iZip, iEnum2, Tg.ix, Tgs.ix, notOwn, wipeE, restore, tBin, mBin, two, mCst, mVar, atI, ixN, mNeg, mNot, mNotV, mAnd, mOr, tAndM, tOrM, mFn, nFn, DL.args, argSl, given, gv1, back, bk1, Tg.bind, Tgs.bind, Tgs.len, tTrue, mAppend, mCut, mRev, mIndex, sz, partM, fNe_r flat_nil, nil?], by simp [runF, DL.runN, ioOk, pad, envOf, sSeq, sRet, sRetN, sIf, sSet, sOwn, sPut, sExpr, sFor, sAug, sUnp, sPar, avs, setsE, sNext, mIf, mTru, mIsi, Opd.here, Opd.pre, Opd.post, Opd.postD, Opd.postR, view, truth, rVar, outs, mCall, preAll, postAll, DL.listOf, nLst, nLc, aNil, aCons, mTup, iData, iRange1, iRange2, DL.iZip, iEnum2, Tg.ix, Tgs.ix, notOwn, wipeE, restore, tBin, mBin, two, mCst, mVar, atI, ixN, mNeg, mNot, mNotV, mAnd, mOr, tAndM, tOrM, mFn, nFn, DL.args, argSl, given, gv1, back, bk1, Tg.bind, Tgs.bind, Tgs.len, tTrue, mAppend, mCut, mRev, mIndex, sz, partM]⟩
        have hall : boolsOf (R.dropLast.map fun t => .bool (!nil? t)) = some (R.dropLast.map fun t => !nil? t) := boolsOf_map _ _
        rw [seq_ret (r1 := [some (.d y), some (.d (.tuple (ps.map mkP))), some (.d (.int j)), some (.d (.list R)), none, none]) (d := .bool (nil? t && R.dropLast.all fun t => !nil? t)) (by
          generalize hm : mBin true (.sl 5) (.ex (mTup aNil)) fNe = m at lc2
          generalize hT : tTrue = T at lc2
          have a1 := atL hL
          cases hn : nil? t with
          | false =>
            have hn' : PyData.eqv t (.tuple []) = false := hn
            simp [runF, DL.runN, ioOk, pad, envOf, sSeq, sRet, sRetN, sIf, sSet, sOwn, sPut, sExpr, sFor, sAug, sUnp, sPar, avs, setsE, sNext, mIf, mTru, mIsi, Opd.here, Opd.pre, Opd.post, Opd.postD, Opd.postR, view, truth, rVar, outs, mCall, preAll, postAll, DL.listOf, nLst, nLc, aNil, aCons, mTup, iData, iRange1, iRange2, DL.iZip, iEnum2, Tg.ix, Tgs.ix, notOwn, wipeE, restore, tBin, mBin, two, mCst, mVar, at0, at1, at2, mNeg, mNot, mNotV, mAnd, mOr, tAndM, tOrM, mFn, nFn, DL.args, argSl, given, gv1, back, bk1, Tg.bind, Tgs.bind, Tgs.len, tTrue, mAppend, mCut, mRev, mIndex, sz, partM, fIx, a1, fEq_r flat_nil, hn']
          | true =>
            have hn' : PyData.eqv t (.tuple []) = true := hn
            generalize hDD : R.dropLast = R2 at lc2 hD hall
            generalize hB : (R2.map fun t => PyData.bool (!nil? t)) = B at lc2 hall
            simp [runF, DL.runN, ioOk, pad, envOf, sSeq, sRet, sRetN, sIf, sSet, sOwn, sPut, sExpr, sFor, sAug, sUnp, sPar, avs, setsE, sNext, mIf, mTru, mIsi, Opd.here, Opd.pre, Opd.post, Opd.postD, Opd.postR, view, truth, rVar, outs, mCall, preAll, postAll, DL.listOf, nLst, nLc, aNil, aCons, mTup, iData, iRange1, iRange2, DL.iZip, iEnum2, Tg.ix, Tgs.ix, notOwn, wipeE, restore, tBin, mBin, two, mCst, mVar, at0, at1, at2, mNeg, mNot, mNotV, mAnd, mOr, tAndM, tOrM, mFn, nFn, DL.args, argSl, given, gv1, back, bk1, Tg.bind, Tgs.bind, Tgs.len, tTrue, mAppend, mCut, mRev, mIndex, sz, partM, fIx, a1, fEq_r flat_nil, hn', fCut, cut_but, hDD, hm, hT, lc2, hD, fAll, hall])]
end K06

namespace K06
open PySem PySem.Spec L2 DL
def hdD : D → D
  | .tuple (a :: _) => a
  | d => d
def evOf (p : Pr) : D := .tuple (.str p.1 :: p.2.1)
theorem script_ok (k n : Nat) {y : D} {ps : List Pr} (hn : n ≤ k) (hf : fit 1000 n y = true) (ht : tupD y = .tuple (ps.map mkP)) (hl : ps.length ≤ 1000) : (sems (k + 2)).script_of [.d y] = some (.tuple (ps.map evOf), [.d y]) := by
  have e1 := tupled_ok k (fit_mono hn hf)
  rw [ht] at e1
  rw [sems_script_of]
  have lc : lcLoop (.tup (.cons (.nm 1) (.cons (.nm 2) .nil))) tTrue (mVar 1) [1, 2] (ps.map mkP) [some (.d y), none, none] = some ((ps.map mkP).map hdD, [some (.d y), none, none]) := lc_map hdD fun p hp => by
    obtain ⟨q, _, rfl⟩ := List.mem_map.mp hp
    exact ⟨[some (.d y), some (.d (.tuple (.str q.1 :: q.2.1))), some (.d q.2.2)], by simp [runF, DL.runN, ioOk, pad, envOf, sSeq, sRet, sRetN, sIf, sSet, sOwn, sPut, sExpr, sFor, sAug, sUnp, sPar, avs, setsE, sNext, mIf, mTru, mIsi, Opd.here, Opd.pre, Opd.post, Opd.postD, Opd.postR, view, truth, rVar, outs, mCall, preAll, postAll, DL.listOf, nLst, nLc, aNil, aCons, mTup, iData, iRange1, iRange2, DL.iZip, iEnum2, Tg.ix, Tgs.ix, notOwn, wipeE, restore, tBin, mBin, two, mCst, mVar, atI, ixN, mNeg, mNot, mNotV, mAnd, mOr, tAndM, tOrM, mFn, nFn, DL.args, argSl, given, gv1, back, bk1, Tg.bind, Tgs.bind, Tgs.len, tTrue, mAppend, mCut, mRev, mIndex, sz, partM, mkP], by simp [runF, DL.runN, ioOk, pad, envOf, sSeq, sRet, sRetN, sIf, sSet, sOwn, sPut, sExpr, sFor, sAug, sUnp, sPar, avs, setsE, sNext, mIf, mTru, mIsi, Opd.here, Opd.pre, Opd.post, Opd.postD, Opd.postR, view, truth, rVar, outs, mCall, preAll, postAll, DL.listOf, nLst, nLc, aNil, aCons, mTup, iData, iRange1, iRange2, DL.iZip, iEnum2, Tg.ix, Tgs.ix, notOwn, wipeE, restore, tBin, mBin, two, mCst, mVar, atI, ixN, mNeg, mNot, mNotV, mAnd, mOr, tAndM, tOrM, mFn, nFn, DL.args, argSl, given, gv1, back, bk1, Tg.bind, Tgs.bind, Tgs.len, tTrue, mAppend, mCut, mRev, mIndex, sz, partM, mkP, hdD], by simp [runF, DL.runN, ioOk, pad, envOf, sSeq, sRet, sRetN, sIf, sSet, sOwn, sPut, sExpr, sFor, sAug, sUnp, sPar, avs, setsE, sNext, mIf, mTru, mIsi, Opd.here, Opd.pre, Opd.post, Opd.postD, Opd.postR, view, truth, rVar, outs, mCall, preAll, postAll, DL.listOf, nLst, nLc, aNil, aCons, mTup, iData, iRange1, iRange2, DL.iZip, iEnum2, Tg.ix, Tgs.ix, notOwn, wipeE, restore, tBin, mBin, two, mCst, mVar, atI, ixN, mNeg, mNot, mNotV, mAnd, mOr, tAndM, tOrM, mFn, nFn, DL.args, argSl, given, gv1, back, bk1, Tg.bind, Tgs.bind, Tgs.len, tTrue, mAppend, mCut, mRev, mIndex, sz, partM]⟩
  have et : (ps.map mkP).map hdD = ps.map evOf := by rw [List.map_map]; rfl
  rw [et] at lc
  have hs : (ps.map mkP).length ≤ sizeLine := by rw [List.length_map]; exact size1000 hl
  generalize hG : ps.map mkP = G at *
  generalize ps.map evOf = R at *
  generalize hm : mVar 1 = m at lc
  generalize hT : tTrue = T at lc
  simp [runF, DL.runN, ioOk, pad, envOf, sSeq, sRet, sRetN, sIf, sSet, sOwn, sPut, sExpr, sFor, sAug, sUnp, sPar, avs, setsE, sNext, mIf, mTru, mIsi, Opd.here, Opd.pre, Opd.post, Opd.postD, Opd.postR, view, truth, rVar, outs, mCall, preAll, postAll, DL.listOf, nLst, nLc, aNil, aCons, mTup, iData, iRange1, iRange2, DL.iZip, iEnum2, Tg.ix, Tgs.ix, notOwn, wipeE, restore, tBin, mBin, two, mCst, mVar, atI, ixN, mNeg, mNot, mNotV, mAnd, mOr, tAndM, tOrM, mFn, nFn, DL.args, argSl, given, gv1, back, bk1, Tg.bind, Tgs.bind, Tgs.len, tTrue, mAppend, mCut, mRev, mIndex, sz, partM, io_script_of, b_script_of, e1, hm, hT, lc, hs, fTuple]
/-! the law's own reading -/
def posOf : Nat → List D → List Int
  | _, [] => []
  | k, t :: ts => if nil? t then (k : Int) :: posOf (k + 1) ts else posOf (k + 1) ts
theorem posOf_append : ∀ (k : Nat) (xs ys : List D), posOf k (xs ++ ys) = posOf k xs ++ posOf (k + xs.length) ys
  | k, [], ys => by simp [posOf]
  | k, x :: xs, ys => by
    rw [List.cons_append, posOf, posOf, posOf_append (k + 1) xs ys, List.length_cons, show k + 1 + xs.length = k + (xs.length + 1) by omega]
    split <;> rfl
theorem posOf_lt : ∀ (k : Nat) (xs : List D) (i : Int), i ∈ posOf k xs → i < ((k + xs.length : Nat) : Int)
  | k, [], i, h => by cases h
  | k, x :: xs, i, h => by
    rw [posOf] at h
    rw [List.length_cons]
    split at h
    · rcases List.mem_cons.mp h with h | h
      · omega
      · have := posOf_lt (k + 1) xs i h
        omega
    · have := posOf_lt (k + 1) xs i h
      omega
theorem posOf_nil : ∀ (k : Nat) (xs : List D), (posOf k xs = []) ↔ xs.all (fun t => !nil? t) = true
  | k, [] => by simp [posOf]
  | k, x :: xs => by
    rw [posOf, List.all_cons]
    cases h : nil? x with
    | true => simp
    | false => simpa using posOf_nil (k + 1) xs
theorem eqv_ints : ∀ (xs ys : List Int), PyData.eqvAll (xs.map .int) (ys.map .int) = decide (xs = ys)
  | [], [] => by simp [PyData.eqvAll]
  | [], y :: ys => by simp [PyData.eqvAll]
  | x :: xs, [] => by simp [PyData.eqvAll]
  | x :: xs, y :: ys => by
    rw [List.map_cons, List.map_cons, PyData.eqvAll, PyData.eqv, eqv_ints xs ys]
    by_cases h : x = y <;> by_cases h2 : xs = ys <;> simp [h, h2]
theorem last_pos (ts : List D) : decide (posOf 0 ts = [((ts.length : Int) - 1)]) = (match ts.getLast? with | some t => nil? t && ts.dropLast.all (fun t => !nil? t) | none => false) := by
  cases h : ts.getLast? with
  | none =>
    have : ts = [] := List.getLast?_eq_none_iff.mp h
    subst this
    rfl
  | some t =>
    have hne : ts ≠ [] := fun e => by subst e; cases h
    have e := List.dropLast_concat_getLast hne
    rw [List.getLast?_eq_some_getLast hne] at h
    have h := Option.some.inj h
    rw [h] at e
    generalize ts.dropLast = us at e
    subst e
    rw [posOf_append, List.length_append, Nat.zero_add]
    have el : (((us.length + [t].length : Nat) : Int) - 1) = (us.length : Int) := by simp
    rw [el]
    simp only [posOf]
    by_cases ht : nil? t = true
    · simp only [ht, if_true, Bool.true_and]
      have := posOf_nil 0 us
      cases hu : us.all (fun t => !nil? t) with
      | true =>
        rw [this.mpr hu]
        simp
      | false =>
        have : posOf 0 us ≠ [] := fun z => by rw [this.mp z] at hu; cases hu
        refine decide_eq_false fun z => this ?_
        have := congrArg List.length z
        simpa using this
    · have ht := Bool.eq_false_iff.mpr ht
      simp only [ht, Bool.false_and, if_neg Bool.false_ne_true, List.append_nil]
      refine decide_eq_false fun z => ?_
      have := posOf_lt 0 us us.length (by rw [z]; exact List.mem_singleton.mpr rfl)
      omega
/-! both readings say the same -/
theorem cut_reap {ps : List Pr} : ∀ {n i : Nat} {p : Pr}, n ≤ ps.length → cut ps n ≤ i → i < n → ps[i]? = some p → (p.1 == wReap) = true
  | 0, i, p, _, _, h, _ => by omega
  | n + 1, i, p, hn, h1, h2, h3 => by
    have hx : ps[n]? = some (ps[n]'(by omega)) := List.getElem?_eq_getElem (by omega)
    rw [cut_succ hx] at h1
    split at h1
    · rename_i hr
      by_cases e : i = n
      · subst e
        rw [hx] at h3
        cases h3
        exact hr
      · exact cut_reap (by omega) h1 (by omega) h3
    · omega
theorem cut_stop {ps : List Pr} : ∀ {n : Nat} {p : Pr}, n ≤ ps.length → cut ps n ≠ 0 → ps[cut ps n - 1]? = some p → (p.1 == wReap) = false
  | 0, p, _, h, _ => absurd rfl h
  | n + 1, p, hn, h, hp => by
    have hx : ps[n]? = some (ps[n]'(by omega)) := List.getElem?_eq_getElem (by omega)
    rw [cut_succ hx] at h hp
    split at hp
    · rename_i hr
      rw [if_pos hr] at h
      exact cut_stop (by omega) h hp
    · rename_i hr
      rw [Nat.add_sub_cancel, hx] at hp
      cases hp
      exact Bool.eq_false_iff.mpr hr
theorem closed_quiet {ps : List Pr} (h : ps.any (fun p => p.1 == wQuiet) = false) : closedB ps = false := by
  unfold closedB
  simp only
  split
  · rfl
  · split
    · rename_i p hp
      have : (p.1 == wQuiet) = false := by
        have := List.any_eq_false.mp h p (List.mem_of_getElem? hp)
        exact Bool.eq_false_iff.mpr this
      simp only [this]
      rfl
    · rfl
/-- behind the last quiet -/
theorem closed_rest {ps : List Pr} {q : Nat} (hq : q < ps.length) (h1 : ∀ p, ps[q]? = some p → (p.1 == wQuiet) = true) (h2 : ∀ i p, q < i → ps[i]? = some p → (p.1 == wQuiet) = false) :
    closedB ps = (if (ps.drop (q + 1)).any (fun p => !(p.1 == wReap)) then false else decide (posOf 0 ((ps.drop (q + 1)).map (·.2.2)) = [(((ps.drop (q + 1)).length : Int) - 1)])) := by
  have hx : ps[q]? = some (ps[q]'hq) := List.getElem?_eq_getElem hq
  have nr : (ps[q]'hq).1 == wReap → False := fun z => by
    have a := h1 _ hx
    rw [eq_of_beq a] at z
    exact absurd z (by decide)
  generalize hj : cut ps ps.length = j
  have jl : j ≤ ps.length := hj ▸ cut_le ps ps.length
  have qj : q + 1 ≤ j := by
    apply Classical.byContradiction
    intro z
    exact nr (cut_reap (n := ps.length) (i := q) (Nat.le_refl _) (by omega) hq hx)
  have hp : ps[j - 1]? = some (ps[j - 1]'(by omega)) := List.getElem?_eq_getElem (by omega)
  have st : (ps[j - 1]'(by omega)).1 == wReap → False := fun z => by
    have := cut_stop (n := ps.length) (Nat.le_refl _) (by omega) (by rw [hj]; exact hp)
    rw [z] at this
    cases this
  by_cases e : j = q + 1
  · have any : (ps.drop (q + 1)).any (fun p => !(p.1 == wReap)) = false := by
      rw [List.any_eq_false]
      intro p hp
      obtain ⟨i, hi⟩ := List.getElem?_of_mem hp
      rw [List.getElem?_drop] at hi
      have := (List.getElem?_eq_some_iff.mp hi).1
      simp only [cut_reap (n := ps.length) (Nat.le_refl _) (by omega) this hi]
      simp
    rw [any]
    have lp := last_pos ((ps.drop (q + 1)).map (·.2.2))
    rw [List.length_map] at lp
    rw [if_neg Bool.false_ne_true, lp]
    unfold closedB
    simp only
    rw [hj, if_neg (by omega), e, Nat.add_sub_cancel, hx]
    simp only [h1 _ hx, if_true]
    all_goals (cases ((ps.drop (q + 1)).map (·.2.2)).getLast? <;> rfl)
  · have any : (ps.drop (q + 1)).any (fun p => !(p.1 == wReap)) = true := by
      rw [List.any_eq_true]
      refine ⟨ps[j - 1]'(by omega), ?_, ?_⟩
      · refine List.mem_of_getElem? (i := j - 1 - (q + 1)) ?_
        rw [List.getElem?_drop, show q + 1 + (j - 1 - (q + 1)) = j - 1 by omega]
        exact hp
      · rw [Bool.eq_false_iff.mpr st]
        rfl
    rw [any, if_pos rfl]
    unfold closedB
    simp only
    rw [hj, if_neg (by omega), hp]
    simp only [h2 (j - 1) _ (by omega) hp]
    rfl
theorem enum_pos : ∀ (k : Nat) (B : List Pr), ((enumD k (B.map mkP)).filter (fun d => nil? (tl (tl d)))).map hdD = (posOf k (B.map (·.2.2))).map .int
  | k, [] => rfl
  | k, p :: B => by
    rw [List.map_cons, enumD, List.map_cons, posOf]
    have e : nil? (tl (tl (PyData.tuple [.int k, mkP p]))) = nil? p.2.2 := rfl
    by_cases h : nil? p.2.2 = true
    · rw [List.filter_cons_of_pos (by rw [e]; exact h), List.map_cons, enum_pos (k + 1) B, if_pos h]
      rfl
    · rw [List.filter_cons_of_neg (by rw [e]; exact h), enum_pos (k + 1) B, if_neg h]
theorem idx_some {y : D} : ∀ {xs : List D}, xs.any (fun x => PyData.eqv x y) = true → ∃ i, idxD y xs = some i ∧ i < xs.length
  | [], h => by cases h
  | x :: xs, h => by
    unfold idxD
    by_cases hx : PyData.eqv x y = true
    · rw [if_pos hx]
      exact ⟨0, rfl, by simp⟩
    · rw [if_neg hx]
      rw [List.any_cons, Bool.eq_false_iff.mpr hx, Bool.false_or] at h
      obtain ⟨i, e, hi⟩ := idx_some h
      rw [e]
      exact ⟨i + 1, rfl, by simpa using hi⟩
theorem flat_strs : ∀ (ws : List Str), flatD (.list (ws.map .str)) = true := fun ws => by
  unfold flatD
  have : PyData.depthAll (ws.map .str) ≤ 0 := depthAll_le fun x hx => by
    obtain ⟨w, _, rfl⟩ := List.mem_map.mp hx
    exact Nat.le_refl 0
  refine decide_eq_true ?_
  unfold PyData.depth
  omega
def noReap (d : D) : Bool := match d with
  | .tuple [.tuple (.str w :: _), _] => !(w == wReap)
  | _ => false
theorem shut_ok (k : Nat) {ps : List Pr} (hl : ps.length ≤ 1000) : (sems (k + 1)).law_shut [.d (.tuple (ps.map mkP))] = some (.bool (closedB ps), [.d (.tuple (ps.map mkP))]) := by
  rw [sems_law_shut]
  have hs : (ps.map mkP).length ≤ sizeLine := by rw [List.length_map]; exact size1000 hl
  have lc : lcLoop (.nm 3) tTrue (mBin true (.ex (mBin true (.sl 3) (.ex (mCst (.int 0))) fIx)) (.ex (mCst (.int 0))) fIx) [3] (ps.map mkP) [some (.d (.tuple (ps.map mkP))), none, none, none, none] = some ((ps.map mkP).map (fun d => hdD (hdD d)), [some (.d (.tuple (ps.map mkP))), none, none, none, none]) := lc_map (fun d => hdD (hdD d)) fun p hp => by
    obtain ⟨q, _, rfl⟩ := List.mem_map.mp hp
    exact ⟨[some (.d (.tuple (ps.map mkP))), none, none, some (.d (mkP q)), none], by simp [runF, DL.runN, ioOk, pad, envOf, sSeq, sRet, sRetN, sIf, sSet, sOwn, sPut, sExpr, sFor, sAug, sUnp, sPar, avs, setsE, sNext, mIf, mTru, mIsi, Opd.here, Opd.pre, Opd.post, Opd.postD, Opd.postR, view, truth, rVar, outs, mCall, preAll, postAll, DL.listOf, nLst, nLc, aNil, aCons, mTup, iData, iRange1, iRange2, DL.iZip, iEnum2, Tg.ix, Tgs.ix, notOwn, wipeE, restore, tBin, mBin, two, mCst, mVar, atI, ixN, mNeg, mNot, mNotV, mAnd, mOr, tAndM, tOrM, mFn, nFn, DL.args, argSl, given, gv1, back, bk1, Tg.bind, Tgs.bind, Tgs.len, tTrue, mAppend, mCut, mRev, mIndex, sz, partM], by simp [runF, DL.runN, ioOk, pad, envOf, sSeq, sRet, sRetN, sIf, sSet, sOwn, sPut, sExpr, sFor, sAug, sUnp, sPar, avs, setsE, sNext, mIf, mTru, mIsi, Opd.here, Opd.pre, Opd.post, Opd.postD, Opd.postR, view, truth, rVar, outs, mCall, preAll, postAll, DL.listOf, nLst, nLc, aNil, aCons, mTup, iData, iRange1, iRange2, DL.iZip, iEnum2, Tg.ix, Tgs.ix, notOwn, wipeE, restore, tBin, mBin, two, mCst, mVar, at0, at1, at2, mNeg, mNot, mNotV, mAnd, mOr, tAndM, tOrM, mFn, nFn, DL.args, argSl, given, gv1, back, bk1, Tg.bind, Tgs.bind, Tgs.len, tTrue, mAppend, mCut, mRev, mIndex, sz, partM, fIx, mkP, hdD], by simp [runF, DL.runN, ioOk, pad, envOf, sSeq, sRet, sRetN, sIf, sSet, sOwn, sPut, sExpr, sFor, sAug, sUnp, sPar, avs, setsE, sNext, mIf, mTru, mIsi, Opd.here, Opd.pre, Opd.post, Opd.postD, Opd.postR, view, truth, rVar, outs, mCall, preAll, postAll, DL.listOf, nLst, nLc, aNil, aCons, mTup, iData, iRange1, iRange2, DL.iZip, iEnum2, Tg.ix, Tgs.ix, notOwn, wipeE, restore, tBin, mBin, two, mCst, mVar, atI, ixN, mNeg, mNot, mNotV, mAnd, mOr, tAndM, tOrM, mFn, nFn, DL.args, argSl, given, gv1, back, bk1, Tg.bind, Tgs.bind, Tgs.len, tTrue, mAppend, mCut, mRev, mIndex, sz, partM]⟩
  have ew : (ps.map mkP).map (fun d => hdD (hdD d)) = (ps.map (·.1)).map .str := by rw [List.map_map, List.map_map]; rfl
  rw [ew] at lc
  generalize hW : (ps.map (·.1)).map PyData.str = W at lc
  generalize hP : ps.map mkP = P at *
  have fW : flatD (.list W) = true := hW ▸ flat_strs _
  have st1 : sSet 1 (DL.listOf (nLc (iData (.sl 0)) (.nm 3) tTrue (mBin true (.ex (mBin true (.sl 3) (.ex (mCst (.int 0))) fIx)) (.ex (mCst (.int 0))) fIx))) (pad 5 [.d (.tuple P)]) = some (.nx, [some (.d (.tuple P)), some (.d (.list W)), none, none, none]) := by
    generalize hm : (mBin true (.ex (mBin true (.sl 3) (.ex (mCst (.int 0))) fIx)) (.ex (mCst (.int 0))) fIx) = m at lc
    generalize hT : tTrue = T at lc
    simp [runF, DL.runN, ioOk, pad, envOf, sSeq, sRet, sRetN, sIf, sSet, sOwn, sPut, sExpr, sFor, sAug, sUnp, sPar, avs, setsE, sNext, mIf, mTru, mIsi, Opd.here, Opd.pre, Opd.post, Opd.postD, Opd.postR, view, truth, rVar, outs, mCall, preAll, postAll, DL.listOf, nLst, nLc, aNil, aCons, mTup, iData, iRange1, iRange2, DL.iZip, iEnum2, Tg.ix, Tgs.ix, notOwn, wipeE, restore, tBin, mBin, two, mCst, mVar, atI, ixN, mNeg, mNot, mNotV, mAnd, mOr, tAndM, tOrM, mFn, nFn, DL.args, argSl, given, gv1, back, bk1, Tg.bind, Tgs.bind, Tgs.len, tTrue, mAppend, mCut, mRev, mIndex, sz, partM, lc, hs]
  have any : W.any (fun y => PyData.eqv y (.str wQuiet)) = ps.any (fun p => p.1 == wQuiet) := by
    rw [← hW, List.any_map, List.any_map]
    rfl
  have notin : fNotIn (.str wQuiet) (.list W) = some (.bool (!ps.any (fun p => p.1 == wQuiet))) := by
    have : flatD (.str wQuiet) = true := rfl
    simp only [fNotIn, inD, this, Bool.true_or, if_true]
    rw [any]
  cases hq : ps.any (fun p => p.1 == wQuiet) with
  | false =>
    rw [closed_quiet hq]
    rw [hq] at notin
    refine run_of (r := [some (.d (.tuple P)), some (.d (.list W)), none, none, none]) rfl ?_ rfl
    unfold b_law_shut
    rw [seq_nx st1]
    rw [seq_ret (r1 := [some (.d (.tuple P)), some (.d (.list W)), none, none, none]) (d := .bool false) (by simp [runF, DL.runN, ioOk, pad, envOf, sSeq, sRet, sRetN, sIf, sSet, sOwn, sPut, sExpr, sFor, sAug, sUnp, sPar, avs, setsE, sNext, mIf, mTru, mIsi, Opd.here, Opd.pre, Opd.post, Opd.postD, Opd.postR, view, truth, rVar, outs, mCall, preAll, postAll, DL.listOf, nLst, nLc, aNil, aCons, mTup, iData, iRange1, iRange2, DL.iZip, iEnum2, Tg.ix, Tgs.ix, notOwn, wipeE, restore, tBin, mBin, two, mCst, mVar, atI, ixN, mNeg, mNot, mNotV, mAnd, mOr, tAndM, tOrM, mFn, nFn, DL.args, argSl, given, gv1, back, bk1, Tg.bind, Tgs.bind, Tgs.len, tTrue, mAppend, mCut, mRev, mIndex, sz, partM, notin])]
  | true =>
    rw [hq] at notin
    have lW : W.length = ps.length := by rw [← hW]; simp
    obtain ⟨i, ei, il⟩ := idx_some (y := .str wQuiet) (xs := W.reverse) (by rw [List.any_reverse, any]; exact hq)
    rw [List.length_reverse, lW] at il
    obtain ⟨⟨z, z1, z2⟩, z3⟩ := idxD_ok ei
    have get : ∀ (m : Nat), m < ps.length → ∀ p, ps[ps.length - 1 - m]? = some p → W.reverse[m]? = some (.str p.1) := fun m hm p hp => by
      rw [List.getElem?_reverse (by omega), lW, ← hW, List.getElem?_map, List.getElem?_map, hp]
      rfl
    have cl := closed_rest (ps := ps) (q := ps.length - 1 - i) (by omega) (fun p hp => by
      rw [get i il p hp] at z1
      cases z1
      exact z2) (fun l p hl hp => by
      have hl2 := (List.getElem?_eq_some_iff.mp hp).1
      have := z3 (ps.length - 1 - l) (.str p.1) (by omega) (get _ (by omega) p (by rw [show ps.length - 1 - (ps.length - 1 - l) = l by omega]; exact hp))
      exact this)
    rw [show ps.length - 1 - i + 1 = ps.length - i by omega] at cl
    generalize hR : ps.drop (ps.length - i) = R at cl
    have lR : R.length ≤ 1000 := by rw [← hR, List.length_drop]; omega
    have eR : P.drop (ps.length - i) = R.map mkP := by rw [← hP, ← hR, List.map_drop]
    have st3 : sSet 2 (mCut (.sl 0) (some (mBin false (.ex (mCall true [(.sl 1)] fLen)) (.ex (mIndex (mRev (.sl 1)) (mCst (.str (Str.ofString "quiet"))))) fSub)) none) [some (.d (.tuple P)), some (.d (.list W)), none, none, none] = some (.nx, [some (.d (.tuple P)), some (.d (.list W)), some (.d (.tuple (R.map mkP))), none, none]) := by
      have f1 : flatD (.list W.reverse) = true := by
        rw [← hW, ← List.map_reverse]
        exact flat_strs _
      have f2 : flatD (.str wQuiet) = true := rfl
      have e1 : ((W.length : Int) - (i : Int)) = ((ps.length - i : Nat) : Int) := by omega
      simp [runF, DL.runN, ioOk, pad, envOf, sSeq, sRet, sRetN, sIf, sSet, sOwn, sPut, sExpr, sFor, sAug, sUnp, sPar, avs, setsE, sNext, mIf, mTru, mIsi, Opd.here, Opd.pre, Opd.post, Opd.postD, Opd.postR, view, truth, rVar, outs, mCall, preAll, postAll, DL.listOf, nLst, nLc, aNil, aCons, mTup, iData, iRange1, iRange2, DL.iZip, iEnum2, Tg.ix, Tgs.ix, notOwn, wipeE, restore, tBin, mBin, two, mCst, mVar, atI, ixN, mNeg, mNot, mNotV, mAnd, mOr, tAndM, tOrM, mFn, nFn, DL.args, argSl, given, gv1, back, bk1, Tg.bind, Tgs.bind, Tgs.len, tTrue, mAppend, mCut, mRev, mIndex, sz, partM, fLen, f1, f2, ei, fSub, e1, fCut, cut_from, eR]
    have hsR : (R.map mkP).length ≤ sizeLine := by rw [List.length_map]; exact size1000 lR
    have fe : fEq (.tuple (R.map mkP)) (.tuple []) = some (.bool R.isEmpty) := by
      rw [fEq_r flat_nil]
      cases R <;> rfl
    have lc2 : lcLoop (.nm 3) (tBin true (.ex (mBin true (.ex (mBin true (.sl 3) (.ex (mCst (.int 0))) fIx)) (.ex (mCst (.int 0))) fIx)) (.ex (mCst (.str (Str.ofString "reap")))) fNe) (mVar 3) [3] (R.map mkP) [some (.d (.tuple P)), some (.d (.list W)), some (.d (.tuple (R.map mkP))), none, none] = some (((R.map mkP).filter noReap).map id, [some (.d (.tuple P)), some (.d (.list W)), some (.d (.tuple (R.map mkP))), none, none]) := lc_filter noReap id fun p hp => by
      obtain ⟨q, _, rfl⟩ := List.mem_map.mp hp
      exact ⟨[some (.d (.tuple P)), some (.d (.list W)), some (.d (.tuple (R.map mkP))), some (.d (mkP q)), none], by simp [runF, DL.runN, ioOk, pad, envOf, sSeq, sRet, sRetN, sIf, sSet, sOwn, sPut, sExpr, sFor, sAug, sUnp, sPar, avs, setsE, sNext, mIf, mTru, mIsi, Opd.here, Opd.pre, Opd.post, Opd.postD, Opd.postR, view, truth, rVar, outs, mCall, preAll, postAll, DL.listOf, nLst, nLc, aNil, aCons, mTup, iData, iRange1, iRange2, DL.iZip, iEnum2, Tg.ix, Tgs.ix, notOwn, wipeE, restore, tBin, mBin, two, mCst, mVar, atI, ixN, mNeg, mNot, mNotV, mAnd, mOr, tAndM, tOrM, mFn, nFn, DL.args, argSl, given, gv1, back, bk1, Tg.bind, Tgs.bind, Tgs.len, tTrue, mAppend, mCut, mRev, mIndex, sz, partM], by simp [runF, DL.runN, ioOk, pad, envOf, sSeq, sRet, sRetN, sIf, sSet, sOwn, sPut, sExpr, sFor, sAug, sUnp, sPar, avs, setsE, sNext, mIf, mTru, mIsi, Opd.here, Opd.pre, Opd.post, Opd.postD, Opd.postR, view, truth, rVar, outs, mCall, preAll, postAll, DL.listOf, nLst, nLc, aNil, aCons, mTup, iData, iRange1, iRange2, DL.iZip, iEnum2, Tg.ix, Tgs.ix, notOwn, wipeE, restore, tBin, mBin, two, mCst, mVar, at0, at1, at2, mNeg, mNot, mNotV, mAnd, mOr, tAndM, tOrM, mFn, nFn, DL.args, argSl, given, gv1, back, bk1, Tg.bind, Tgs.bind, Tgs.len, tTrue, mAppend, mCut, mRev, mIndex, sz, partM, fIx, mkP, fNe_str, noReap], fun _ => by simp [runF, DL.runN, ioOk, pad, envOf, sSeq, sRet, sRetN, sIf, sSet, sOwn, sPut, sExpr, sFor, sAug, sUnp, sPar, avs, setsE, sNext, mIf, mTru, mIsi, Opd.here, Opd.pre, Opd.post, Opd.postD, Opd.postR, view, truth, rVar, outs, mCall, preAll, postAll, DL.listOf, nLst, nLc, aNil, aCons, mTup, iData, iRange1, iRange2, DL.iZip, iEnum2, Tg.ix, Tgs.ix, notOwn, wipeE, restore, tBin, mBin, two, mCst, mVar, atI, ixN, mNeg, mNot, mNotV, mAnd, mOr, tAndM, tOrM, mFn, nFn, DL.args, argSl, given, gv1, back, bk1, Tg.bind, Tgs.bind, Tgs.len, tTrue, mAppend, mCut, mRev, mIndex, sz, partM], by simp [runF, DL.runN, ioOk, pad, envOf, sSeq, sRet, sRetN, sIf, sSet, sOwn, sPut, sExpr, sFor, sAug, sUnp, sPar, avs, setsE, sNext, mIf, mTru, mIsi, Opd.here, Opd.pre, Opd.post, Opd.postD, Opd.postR, view, truth, rVar, outs, mCall, preAll, postAll, DL.listOf, nLst, nLc, aNil, aCons, mTup, iData, iRange1, iRange2, DL.iZip, iEnum2, Tg.ix, Tgs.ix, notOwn, wipeE, restore, tBin, mBin, two, mCst, mVar, atI, ixN, mNeg, mNot, mNotV, mAnd, mOr, tAndM, tOrM, mFn, nFn, DL.args, argSl, given, gv1, back, bk1, Tg.bind, Tgs.bind, Tgs.len, tTrue, mAppend, mCut, mRev, mIndex, sz, partM]⟩
    have fne : fNe (.list (((R.map mkP).filter noReap).map id)) (.list []) = some (.bool (R.any (fun p => !(p.1 == wReap)))) := by
      rw [fNe_r (show flatD (.list []) = true from rfl)]
      have : ((R.map mkP).filter noReap).map id = (R.filter (fun p => !(p.1 == wReap))).map mkP := by
        rw [List.map_id, List.filter_map]
        rfl
      rw [this]
      congr 2
      rw [List.any_eq_not_all_not]
      cases hf : R.filter (fun p => !(p.1 == wReap)) with
      | nil =>
        have := List.filter_eq_nil_iff.mp hf
        have : R.all (fun x => !!(x.1 == wReap)) = true := List.all_eq_true.mpr fun x hx => by simpa using this x hx
        rw [this]
        rfl
      | cons a as =>
        have : R.all (fun x => !!(x.1 == wReap)) = false := by
          rw [List.all_eq_false]
          have := List.mem_filter.mp (show a ∈ R.filter (fun p => !(p.1 == wReap)) by rw [hf]; exact List.mem_cons_self)
          exact ⟨a, this.1, by simpa using this.2⟩
        rw [this]
        rfl
    have lc3 : lcLoop (.tup (.cons (.nm 4) (.cons (.nm 3) .nil))) (tBin true (.ex (mBin true (.sl 3) (.ex (mCst (.int 1))) fIx)) (.ex (mTup aNil)) fEq) (mVar 4) [4, 3] (enumD 0 (R.map mkP)) [some (.d (.tuple P)), some (.d (.list W)), some (.d (.tuple (R.map mkP))), none, none] = some (((enumD 0 (R.map mkP)).filter (fun d => nil? (tl (tl d)))).map hdD, [some (.d (.tuple P)), some (.d (.list W)), some (.d (.tuple (R.map mkP))), none, none]) := lc_filter (fun d => nil? (tl (tl d))) hdD fun d hd => by
      obtain ⟨n, hn⟩ := List.getElem?_of_mem hd
      obtain ⟨x, hx, rfl⟩ := enumD_get hn
      obtain ⟨q, _, rfl⟩ := List.mem_map.mp (List.mem_of_getElem? hx)
      exact ⟨[some (.d (.tuple P)), some (.d (.list W)), some (.d (.tuple (R.map mkP))), some (.d (mkP q)), some (.d (.int ((0 + n : Nat) : Int)))], by simp [runF, DL.runN, ioOk, pad, envOf, sSeq, sRet, sRetN, sIf, sSet, sOwn, sPut, sExpr, sFor, sAug, sUnp, sPar, avs, setsE, sNext, mIf, mTru, mIsi, Opd.here, Opd.pre, Opd.post, Opd.postD, Opd.postR, view, truth, rVar, outs, mCall, preAll, postAll, DL.listOf, nLst, nLc, aNil, aCons, mTup, iData, iRange1, iRange2, DL.iZip, iEnum2, Tg.ix, Tgs.ix, notOwn, wipeE, restore, tBin, mBin, two, mCst, mVar, atI, ixN, mNeg, mNot, mNotV, mAnd, mOr, tAndM, tOrM, mFn, nFn, DL.args, argSl, given, gv1, back, bk1, Tg.bind, Tgs.bind, Tgs.len, tTrue, mAppend, mCut, mRev, mIndex, sz, partM, mkP], by simp [runF, DL.runN, ioOk, pad, envOf, sSeq, sRet, sRetN, sIf, sSet, sOwn, sPut, sExpr, sFor, sAug, sUnp, sPar, avs, setsE, sNext, mIf, mTru, mIsi, Opd.here, Opd.pre, Opd.post, Opd.postD, Opd.postR, view, truth, rVar, outs, mCall, preAll, postAll, DL.listOf, nLst, nLc, aNil, aCons, mTup, iData, iRange1, iRange2, DL.iZip, iEnum2, Tg.ix, Tgs.ix, notOwn, wipeE, restore, tBin, mBin, two, mCst, mVar, at0, at1, at2, mNeg, mNot, mNotV, mAnd, mOr, tAndM, tOrM, mFn, nFn, DL.args, argSl, given, gv1, back, bk1, Tg.bind, Tgs.bind, Tgs.len, tTrue, mAppend, mCut, mRev, mIndex, sz, partM, fIx, mkP, fEq_r flat_nil, tl, nil?], fun _ => by simp [runF, DL.runN, ioOk, pad, envOf, sSeq, sRet, sRetN, sIf, sSet, sOwn, sPut, sExpr, sFor, sAug, sUnp, sPar, avs, setsE, sNext, mIf, mTru, mIsi, Opd.here, Opd.pre, Opd.post, Opd.postD, Opd.postR, view, truth, rVar, outs, mCall, preAll, postAll, DL.listOf, nLst, nLc, aNil, aCons, mTup, iData, iRange1, iRange2, DL.iZip, iEnum2, Tg.ix, Tgs.ix, notOwn, wipeE, restore, tBin, mBin, two, mCst, mVar, atI, ixN, mNeg, mNot, mNotV, mAnd, mOr, tAndM, tOrM, mFn, nFn, DL.args, argSl, given, gv1, back, bk1, Tg.bind, Tgs.bind, Tgs.len, tTrue, mAppend, mCut, mRev, mIndex, sz, partM, hdD], by simp [runF, DL.runN, ioOk, pad, envOf, sSeq, sRet, sRetN, sIf, sSet, sOwn, sPut, sExpr, sFor, sAug, sUnp, sPar, avs, setsE, sNext, mIf, mTru, mIsi, Opd.here, Opd.pre, Opd.post, Opd.postD, Opd.postR, view, truth, rVar, outs, mCall, preAll, postAll, DL.listOf, nLst, nLc, aNil, aCons, mTup, iData, iRange1, iRange2, DL.iZip, iEnum2, Tg.ix, Tgs.ix, notOwn, wipeE, restore, tBin, mBin, two, mCst, mVar, atI, ixN, mNeg, mNot, mNotV, mAnd, mOr, tAndM, tOrM, mFn, nFn, DL.args, argSl, given, gv1, back, bk1, Tg.bind, Tgs.bind, Tgs.len, tTrue, mAppend, mCut, mRev, mIndex, sz, partM]⟩
    rw [enum_pos] at lc3
    have hE : (enumD 0 (R.map mkP)).length ≤ sizeLine := by
      have : ∀ (k : Nat) (xs : List D), (enumD k xs).length = xs.length := fun k xs => by
        induction xs generalizing k with
        | nil => rfl
        | cons x xs ih => rw [enumD, List.length_cons, List.length_cons, ih]
      rw [this]
      exact hsR
    refine run_of (r := [some (.d (.tuple P)), some (.d (.list W)), some (.d (.tuple (R.map mkP))), none, none]) rfl ?_ rfl
    unfold b_law_shut
    rw [seq_nx st1]
    rw [seq_nx (r1 := [some (.d (.tuple P)), some (.d (.list W)), none, none, none]) (by simp [runF, DL.runN, ioOk, pad, envOf, sSeq, sRet, sRetN, sIf, sSet, sOwn, sPut, sExpr, sFor, sAug, sUnp, sPar, avs, setsE, sNext, mIf, mTru, mIsi, Opd.here, Opd.pre, Opd.post, Opd.postD, Opd.postR, view, truth, rVar, outs, mCall, preAll, postAll, DL.listOf, nLst, nLc, aNil, aCons, mTup, iData, iRange1, iRange2, DL.iZip, iEnum2, Tg.ix, Tgs.ix, notOwn, wipeE, restore, tBin, mBin, two, mCst, mVar, atI, ixN, mNeg, mNot, mNotV, mAnd, mOr, tAndM, tOrM, mFn, nFn, DL.args, argSl, given, gv1, back, bk1, Tg.bind, Tgs.bind, Tgs.len, tTrue, mAppend, mCut, mRev, mIndex, sz, partM, notin])]
    rw [seq_nx st3]
    rw [cl]
    by_cases hE0 : R = []
    · subst hE0
      rw [seq_ret (r1 := [some (.d (.tuple P)), some (.d (.list W)), some (.d (.tuple (List.map mkP []))), none, none]) (d := .bool false) (by simp [runF, DL.runN, ioOk, pad, envOf, sSeq, sRet, sRetN, sIf, sSet, sOwn, sPut, sExpr, sFor, sAug, sUnp, sPar, avs, setsE, sNext, mIf, mTru, mIsi, Opd.here, Opd.pre, Opd.post, Opd.postD, Opd.postR, view, truth, rVar, outs, mCall, preAll, postAll, DL.listOf, nLst, nLc, aNil, aCons, mTup, iData, iRange1, iRange2, DL.iZip, iEnum2, Tg.ix, Tgs.ix, notOwn, wipeE, restore, tBin, mBin, two, mCst, mVar, atI, ixN, mNeg, mNot, mNotV, mAnd, mOr, tAndM, tOrM, mFn, nFn, DL.args, argSl, given, gv1, back, bk1, Tg.bind, Tgs.bind, Tgs.len, tTrue, mAppend, mCut, mRev, mIndex, sz, partM, fEq_r flat_nil, PyData.eqv, PyData.eqvAll])]
      rfl
    · have hE1 : R.isEmpty = false := by cases R with
        | nil => exact absurd rfl hE0
        | cons a as => rfl
      rw [hE1] at fe
      have st4 : (tOrM (tBin true (.sl 2) (.ex (mTup aNil)) fEq) (tBin true (.ex (DL.listOf (nLc (iData (.sl 2)) (.nm 3) (tBin true (.ex (mBin true (.ex (mBin true (.sl 3) (.ex (mCst (.int 0))) fIx)) (.ex (mCst (.int 0))) fIx)) (.ex (mCst (.str (Str.ofString "reap")))) fNe) (mVar 3)))) (.ex (DL.listOf (nLst aNil))) fNe)) [some (.d (.tuple P)), some (.d (.list W)), some (.d (.tuple (R.map mkP))), none, none] = some (R.any (fun p => !(p.1 == wReap)), [some (.d (.tuple P)), some (.d (.list W)), some (.d (.tuple (R.map mkP))), none, none]) := by
        generalize hm : (tBin true (.ex (mBin true (.ex (mBin true (.sl 3) (.ex (mCst (.int 0))) fIx)) (.ex (mCst (.int 0))) fIx)) (.ex (mCst (.str (Str.ofString "reap")))) fNe) = m at lc2
        generalize hv : mVar 3 = v at lc2
        generalize R.map mkP = RP at *
        generalize ((RP.filter noReap).map id) = Z at *
        simp [runF, DL.runN, ioOk, pad, envOf, sSeq, sRet, sRetN, sIf, sSet, sOwn, sPut, sExpr, sFor, sAug, sUnp, sPar, avs, setsE, sNext, mIf, mTru, mIsi, Opd.here, Opd.pre, Opd.post, Opd.postD, Opd.postR, view, truth, rVar, outs, mCall, preAll, postAll, DL.listOf, nLst, nLc, aNil, aCons, mTup, iData, iRange1, iRange2, DL.iZip, iEnum2, Tg.ix, Tgs.ix, notOwn, wipeE, restore, tBin, mBin, two, mCst, mVar, atI, ixN, mNeg, mNot, mNotV, mAnd, mOr, tAndM, tOrM, mFn, nFn, DL.args, argSl, given, gv1, back, bk1, Tg.bind, Tgs.bind, Tgs.len, tTrue, mAppend, mCut, mRev, mIndex, sz, partM, fe, lc2, hsR, fne]
      cases ha : R.any (fun p => !(p.1 == wReap)) with
      | true =>
        rw [ha] at st4
        rw [seq_ret (r1 := [some (.d (.tuple P)), some (.d (.list W)), some (.d (.tuple (R.map mkP))), none, none]) (d := .bool false) (by
          unfold sIf
          rw [st4]
          simp [runF, DL.runN, ioOk, pad, envOf, sSeq, sRet, sRetN, sIf, sSet, sOwn, sPut, sExpr, sFor, sAug, sUnp, sPar, avs, setsE, sNext, mIf, mTru, mIsi, Opd.here, Opd.pre, Opd.post, Opd.postD, Opd.postR, view, truth, rVar, outs, mCall, preAll, postAll, DL.listOf, nLst, nLc, aNil, aCons, mTup, iData, iRange1, iRange2, DL.iZip, iEnum2, Tg.ix, Tgs.ix, notOwn, wipeE, restore, tBin, mBin, two, mCst, mVar, atI, ixN, mNeg, mNot, mNotV, mAnd, mOr, tAndM, tOrM, mFn, nFn, DL.args, argSl, given, gv1, back, bk1, Tg.bind, Tgs.bind, Tgs.len, tTrue, mAppend, mCut, mRev, mIndex, sz, partM])]
        rfl
      | false =>
        rw [ha] at st4
        rw [seq_nx (r1 := [some (.d (.tuple P)), some (.d (.list W)), some (.d (.tuple (R.map mkP))), none, none]) (by
          unfold sIf
          rw [st4]
          simp [runF, DL.runN, ioOk, pad, envOf, sSeq, sRet, sRetN, sIf, sSet, sOwn, sPut, sExpr, sFor, sAug, sUnp, sPar, avs, setsE, sNext, mIf, mTru, mIsi, Opd.here, Opd.pre, Opd.post, Opd.postD, Opd.postR, view, truth, rVar, outs, mCall, preAll, postAll, DL.listOf, nLst, nLc, aNil, aCons, mTup, iData, iRange1, iRange2, DL.iZip, iEnum2, Tg.ix, Tgs.ix, notOwn, wipeE, restore, tBin, mBin, two, mCst, mVar, atI, ixN, mNeg, mNot, mNotV, mAnd, mOr, tAndM, tOrM, mFn, nFn, DL.args, argSl, given, gv1, back, bk1, Tg.bind, Tgs.bind, Tgs.len, tTrue, mAppend, mCut, mRev, mIndex, sz, partM])]
        have fz : fEq (.list ((posOf 0 (R.map (·.2.2))).map .int)) (.list [.int ((R.length : Int) - 1)]) = some (.bool (decide (posOf 0 (R.map (·.2.2)) = [((R.length : Int) - 1)]))) := by
          rw [fEq_r (show flatD (.list [.int ((R.length : Int) - 1)]) = true from rfl)]
          congr 2
          exact eqv_ints _ [((R.length : Int) - 1)]
        rw [seq_ret (r1 := [some (.d (.tuple P)), some (.d (.list W)), some (.d (.tuple (R.map mkP))), none, none]) (d := .bool (decide (posOf 0 (R.map (·.2.2)) = [((R.length : Int) - 1)]))) (by
          generalize hm : (tBin true (.ex (mBin true (.sl 3) (.ex (mCst (.int 1))) fIx)) (.ex (mTup aNil)) fEq) = m at lc3
          generalize hv : mVar 4 = v at lc3
          generalize (posOf 0 (R.map (·.2.2))).map PyData.int = Z at *
          have hRl : (R.map mkP).length = R.length := List.length_map _
          generalize R.map mkP = RP at *
          simp [runF, DL.runN, ioOk, pad, envOf, sSeq, sRet, sRetN, sIf, sSet, sOwn, sPut, sExpr, sFor, sAug, sUnp, sPar, avs, setsE, sNext, mIf, mTru, mIsi, Opd.here, Opd.pre, Opd.post, Opd.postD, Opd.postR, view, truth, rVar, outs, mCall, preAll, postAll, DL.listOf, nLst, nLc, aNil, aCons, mTup, iData, iRange1, iRange2, DL.iZip, iEnum2, Tg.ix, Tgs.ix, notOwn, wipeE, restore, tBin, mBin, two, mCst, mVar, atI, ixN, mNeg, mNot, mNotV, mAnd, mOr, tAndM, tOrM, mFn, nFn, DL.args, argSl, given, gv1, back, bk1, Tg.bind, Tgs.bind, Tgs.len, tTrue, mAppend, mCut, mRev, mIndex, sz, partM, lc3, hE, fLen, hRl, fSub, fz])]
        rfl
end K06

namespace K06
open PySem PySem.Spec L2 DL
structure PairOk (p : Pr) : Prop where
  fit : fit 1000 5 (mkP p) = true
  tup : tupD (mkP p) = mkP p
  siz : siz 5 (mkP p) ≤ 1000
  wt : wt (mkP p) ≤ 10000
  shw : (mkP p).showable = true
def letters : List Str := (["a", "b", "c", "d", "e", "f", "g", "h", "i", "j"] : List String).map Str.ofString
def leftL : List D := letters.map fun l => .tuple [.str l, .tuple [.str (Str.ofString "done")], .none, .bool false, .bool false]
def putP : Pr := (Str.ofString "put", [.tuple (letters.map fun l => .tuple [.str l, .tuple [.str (Str.ofString "nop")], .tuple []])], .none)
theorem put_ok : PairOk putP := ⟨by decide +kernel, rfl, by decide +kernel, by decide +kernel, by decide +kernel⟩
theorem signs_letters : signs (Str.ofString "abcdefghij") = letters.map .str := by rfl
/-- an entry of what is told -/
structure EntOk (e : D) : Prop where
  fit : DL.fit 1000 2 e = true
  tup : tupD e = e
  siz : K06.siz 3 e ≤ 50
  wt : DL.wt e ≤ 500
  shw : e.showable = true
theorem left_ok : ∀ e ∈ leftL, EntOk e := by
  intro e he
  simp only [leftL, letters, List.map_cons, List.map_nil, List.mem_cons, List.not_mem_nil, or_false] at he
  rcases he with rfl | rfl | rfl | rfl | rfl | rfl | rfl | rfl | rfl | rfl <;> exact ⟨by decide +kernel, rfl, by decide +kernel, by decide +kernel, by decide +kernel⟩
theorem quiet_ok : PairOk (wQuiet, [], .tuple []) := ⟨by decide +kernel, rfl, by decide +kernel, by decide +kernel, by decide +kernel⟩
theorem lend_ok : PairOk (Str.ofString "lend", [.int (1 + 2)], .none) := ⟨by decide +kernel, rfl, by decide +kernel, by decide +kernel, by decide +kernel⟩
theorem reap_ok {v : Int} {es : List D} (h0 : 0 ≤ v) (h1 : v < 9) (hl : es.length ≤ 2) (he : ∀ e ∈ es, EntOk e) : PairOk (wReap, [.int (1 + v)], .tuple es) := by
  have hv : v = 0 ∨ v = 1 ∨ v = 2 ∨ v = 3 ∨ v = 4 ∨ v = 5 ∨ v = 6 ∨ v = 7 ∨ v = 8 := by omega
  match es, hl, he with
  | [], _, _ => rcases hv with rfl | rfl | rfl | rfl | rfl | rfl | rfl | rfl | rfl <;> exact ⟨by decide +kernel, rfl, by decide +kernel, by decide +kernel, by decide +kernel⟩
  | [a], _, he =>
    have A := he a (by simp)
    have w1 : wt (.int (1 + v)) ≤ 10 := by rcases hv with rfl | rfl | rfl | rfl | rfl | rfl | rfl | rfl | rfl <;> decide +kernel
    have s1 : (PyData.int (1 + v)).showable = true := by rcases hv with rfl | rfl | rfl | rfl | rfl | rfl | rfl | rfl | rfl <;> decide +kernel
    have w2 : wt (.str wReap) ≤ 50 := by decide +kernel
    have s2 : (PyData.str wReap).showable = true := by decide +kernel
    refine ⟨?_, ?_, ?_, ?_, ?_⟩
    · have f2 : wReap.length ≤ 1000 := by decide +kernel
      simp [mkP, fit, f2, fit_mono (by omega : 2 ≤ 3) A.fit]
    · simp [mkP, tupD, tupL, A.tup]
    · have := A.siz
      simp [mkP, siz]
      omega
    · have := A.wt
      simp [mkP, wt, wtAll] at w1 w2 ⊢
      omega
    · simp [mkP, PyData.showable, PyData.showableAll] at s1 s2 ⊢
      simp [s1, s2, A.shw]
  | [a, b], _, he =>
    have A := he a (by simp)
    have B := he b (by simp)
    have w1 : wt (.int (1 + v)) ≤ 10 := by rcases hv with rfl | rfl | rfl | rfl | rfl | rfl | rfl | rfl | rfl <;> decide +kernel
    have s1 : (PyData.int (1 + v)).showable = true := by rcases hv with rfl | rfl | rfl | rfl | rfl | rfl | rfl | rfl | rfl <;> decide +kernel
    have w2 : wt (.str wReap) ≤ 50 := by decide +kernel
    have s2 : (PyData.str wReap).showable = true := by decide +kernel
    refine ⟨?_, ?_, ?_, ?_, ?_⟩
    · have f2 : wReap.length ≤ 1000 := by decide +kernel
      simp [mkP, fit, f2, fit_mono (by omega : 2 ≤ 3) A.fit, fit_mono (by omega : 2 ≤ 3) B.fit]
    · simp [mkP, tupD, tupL, A.tup, B.tup]
    · have := A.siz
      have := B.siz
      simp [mkP, siz]
      omega
    · have := A.wt
      have := B.wt
      simp [mkP, wt, wtAll] at w1 w2 ⊢
      omega
    · simp [mkP, PyData.showable, PyData.showableAll] at s1 s2 ⊢
      simp [s1, s2, A.shw, B.shw]
/-- a slot that holds data or nothing -/
def Dat (o : Option Sl) : Prop := o = none ∨ ∃ x, o = some (.d x)
abbrev bodyP (S : Sems) : SS := (sSeq (sSet 5 (mFn S.law_take [(.sl 0), (.ex (mCst (.int 9)))])) (sSeq (sIf (tBin true (.sl 5) (.ex (mCst (.int 2))) fLt) (sSeq (sExpr (mAppend 2 (mTup (aCons (mTup (aCons (mCst (.str (Str.ofString "quiet"))) aNil)) (aCons (mTup aNil) aNil))))) sNext) (sSeq (sIf (tBin true (.sl 5) (.ex (mCst (.int 2))) fEq) (sSeq (sExpr (mAppend 2 (mTup (aCons (mTup (aCons (mCst (.str (Str.ofString "lend"))) (aCons (mBin false (.ex (mCst (.int 1))) (.sl 5) fAdd) aNil))) (aCons (mCst .none) aNil))))) sNext) (sSeq (sSet 6 (mIf (tBin true (.sl 5) (.ex (mCst (.int 6))) fLt) (mCall true [(.ex (mCut (.sl 3) none (some (mFn S.law_take [(.sl 0), (.ex (mCst (.int 3)))]))))] fTuple) (mTup aNil))) (sSeq (sSet 3 (mCut (.sl 3) (some (mCall true [(.sl 6)] fLen)) none)) (sSeq (sExpr (mAppend 2 (mTup (aCons (mTup (aCons (mCst (.str (Str.ofString "reap"))) (aCons (mBin false (.ex (mCst (.int 1))) (.sl 5) fAdd) aNil))) (aCons (mVar 6) aNil))))) sNext)))) sNext)) sNext))
theorem turn_ok (k : Nat) {t : Int} {b : List D} {fs : List Pr} {m : Nat} {o4 o5 o6 : Option Sl} (i : D) (hb : Box t b) (ht : t + 2 < 2 ^ 60) (hf : ∀ p ∈ fs, PairOk p) (hl : fs.length ≤ 500) (h4 : Dat o4) (h5 : Dat o5) (h6 : Dat o6) :
    ∃ (b' : List D) (fs' : List Pr) (m' : Nat) (o5' o6' : Option Sl), (match Tg.bind (.nm 4) i [some (.own b), some (.d (.int 9)), some (.own (fs.map mkP)), some (.d (.list (leftL.drop m))), o4, o5, o6, none] with | some r1 => bodyP (sems (k + 1)) r1 | none => none) = some (.nx, [some (.own b'), some (.d (.int 9)), some (.own (fs'.map mkP)), some (.d (.list (leftL.drop m'))), some (.d i), o5', o6', none]) ∧ Box (t + 2) b' ∧ (∀ p ∈ fs', PairOk p) ∧ fs'.length = fs.length + 1 ∧ Dat o5' ∧ Dat o6' := by
  have bind : Tg.bind (.nm 4) i [some (.own b), some (.d (.int 9)), some (.own (fs.map mkP)), some (.d (.list (leftL.drop m))), o4, o5, o6, none] = some [some (.own b), some (.d (.int 9)), some (.own (fs.map mkP)), some (.d (.list (leftL.drop m))), some (.d i), o5, o6, none] := by
    rcases h4 with rfl | ⟨x, rfl⟩ <;> simp [runF, DL.runN, ioOk, pad, envOf, sSeq, sRet, sRetN, sIf, sSet, sOwn, sPut, sExpr, sFor, sAug, sUnp, sPar, avs, setsE, sNext, mIf, mTru, mIsi, Opd.here, Opd.pre, Opd.post, Opd.postD, Opd.postR, view, truth, rVar, outs, mCall, preAll, postAll, DL.listOf, nLst, nLc, aNil, aCons, mTup, iData, iRange1, iRange2, DL.iZip, iEnum2, Tg.ix, Tgs.ix, notOwn, wipeE, restore, tBin, mBin, two, mCst, mVar, atI, ixN, mNeg, mNot, mNotV, mAnd, mOr, tAndM, tOrM, mFn, nFn, DL.args, argSl, given, gv1, back, bk1, Tg.bind, Tgs.bind, Tgs.len, tTrue, mAppend, mCut, mRev, mIndex, sz, partM]
  rw [bind]
  simp only
  obtain ⟨v, b1, e1, hb1, v0, v1⟩ := take_ok k (n := 9) hb (by omega) (by omega) (by omega)
  have hlf : (fs.map mkP).length < sizeLine := by rw [List.length_map]; exact Nat.lt_of_le_of_lt hl (by decide)
  have app : ∀ p : Pr, fs.map mkP ++ [mkP p] = (fs ++ [p]).map mkP := fun p => by rw [List.map_append]; rfl
  have add : ∀ p : Pr, PairOk p → ∀ q ∈ fs ++ [p], PairOk q := fun p hp q hq => by
    rcases List.mem_append.mp hq with h | h
    · exact hf q h
    · rw [List.mem_singleton.mp h]; exact hp
  by_cases c1 : v < 2
  · refine ⟨b1, fs ++ [(wQuiet, [], .tuple [])], m, some (.d (.int v)), o6, ?_, hb1.mono (by omega), add _ quiet_ok, by simp, .inr ⟨_, rfl⟩, h6⟩
    rw [← app]
    generalize fs.map mkP = F at *
    simp [runF, DL.runN, ioOk, pad, envOf, sSeq, sRet, sRetN, sIf, sSet, sOwn, sPut, sExpr, sFor, sAug, sUnp, sPar, avs, setsE, sNext, mIf, mTru, mIsi, Opd.here, Opd.pre, Opd.post, Opd.postD, Opd.postR, view, truth, rVar, outs, mCall, preAll, postAll, DL.listOf, nLst, nLc, aNil, aCons, mTup, iData, iRange1, iRange2, DL.iZip, iEnum2, Tg.ix, Tgs.ix, notOwn, wipeE, restore, tBin, mBin, two, mCst, mVar, atI, ixN, mNeg, mNot, mNotV, mAnd, mOr, tAndM, tOrM, mFn, nFn, DL.args, argSl, given, gv1, back, bk1, Tg.bind, Tgs.bind, Tgs.len, tTrue, mAppend, mCut, mRev, mIndex, sz, partM, e1, fLt, c1, hlf, mkP]
  · by_cases c2 : v = 2
    · subst c2
      refine ⟨b1, fs ++ [(Str.ofString "lend", [.int (1 + 2)], .none)], m, some (.d (.int 2)), o6, ?_, hb1.mono (by omega), add _ lend_ok, by simp, .inr ⟨_, rfl⟩, h6⟩
      rw [← app]
      generalize fs.map mkP = F at *
      simp [runF, DL.runN, ioOk, pad, envOf, sSeq, sRet, sRetN, sIf, sSet, sOwn, sPut, sExpr, sFor, sAug, sUnp, sPar, avs, setsE, sNext, mIf, mTru, mIsi, Opd.here, Opd.pre, Opd.post, Opd.postD, Opd.postR, view, truth, rVar, outs, mCall, preAll, postAll, DL.listOf, nLst, nLc, aNil, aCons, mTup, iData, iRange1, iRange2, DL.iZip, iEnum2, Tg.ix, Tgs.ix, notOwn, wipeE, restore, tBin, mBin, two, mCst, mVar, atI, ixN, mNeg, mNot, mNotV, mAnd, mOr, tAndM, tOrM, mFn, nFn, DL.args, argSl, given, gv1, back, bk1, Tg.bind, Tgs.bind, Tgs.len, tTrue, mAppend, mCut, mRev, mIndex, sz, partM, e1, fLt, hlf, mkP, fEq_int, fAdd]
    · by_cases c3 : v < 6
      · obtain ⟨u, b2, e2, hb2, u0, u1⟩ := take_ok k (n := 3) hb1 (by omega) (by omega) (by omega)
        obtain ⟨j, rfl⟩ : ∃ j : Nat, u = (j : Int) := ⟨u.toNat, by omega⟩
        have hes : ∀ e ∈ (leftL.drop m).take j, EntOk e := fun e he => left_ok e (List.mem_of_mem_drop (List.mem_of_mem_take he))
        have hel : ((leftL.drop m).take j).length ≤ 2 := by rw [List.length_take]; omega
        refine ⟨b2, fs ++ [(wReap, [.int (1 + v)], .tuple ((leftL.drop m).take j))], m + ((leftL.drop m).take j).length, some (.d (.int v)), some (.d (.tuple ((leftL.drop m).take j))), ?_, hb2.mono (by omega), add _ (reap_ok v0 v1 hel hes), by simp, .inr ⟨_, rfl⟩, .inr ⟨_, rfl⟩⟩
        rw [← app, ← List.drop_drop]
        generalize fs.map mkP = F at *
        generalize leftL.drop m = L at *
        have c4 := cut_to L j
        have c5 := cut_from L (L.take j).length
        generalize L.take j = T at *
        simp [runF, DL.runN, ioOk, pad, envOf, sSeq, sRet, sRetN, sIf, sSet, sOwn, sPut, sExpr, sFor, sAug, sUnp, sPar, avs, setsE, sNext, mIf, mTru, mIsi, Opd.here, Opd.pre, Opd.post, Opd.postD, Opd.postR, view, truth, rVar, outs, mCall, preAll, postAll, DL.listOf, nLst, nLc, aNil, aCons, mTup, iData, iRange1, iRange2, DL.iZip, iEnum2, Tg.ix, Tgs.ix, notOwn, wipeE, restore, tBin, mBin, two, mCst, mVar, atI, ixN, mNeg, mNot, mNotV, mAnd, mOr, tAndM, tOrM, mFn, nFn, DL.args, argSl, given, gv1, back, bk1, Tg.bind, Tgs.bind, Tgs.len, tTrue, mAppend, mCut, mRev, mIndex, sz, partM, e1, e2, fLt, c1, c2, c3, hlf, mkP, fEq_int, fAdd, fCut, c4, fTuple, fLen, c5]
      · refine ⟨b1, fs ++ [(wReap, [.int (1 + v)], .tuple [])], m, some (.d (.int v)), some (.d (.tuple [])), ?_, hb1.mono (by omega), add _ (reap_ok v0 v1 (by simp) (fun _ h => by cases h)), by simp, .inr ⟨_, rfl⟩, .inr ⟨_, rfl⟩⟩
        rw [← app]
        generalize fs.map mkP = F at *
        generalize leftL.drop m = L at *
        have c5 := cut_from L 0
        simp only [List.drop_zero] at c5
        simp [runF, DL.runN, ioOk, pad, envOf, sSeq, sRet, sRetN, sIf, sSet, sOwn, sPut, sExpr, sFor, sAug, sUnp, sPar, avs, setsE, sNext, mIf, mTru, mIsi, Opd.here, Opd.pre, Opd.post, Opd.postD, Opd.postR, view, truth, rVar, outs, mCall, preAll, postAll, DL.listOf, nLst, nLc, aNil, aCons, mTup, iData, iRange1, iRange2, DL.iZip, iEnum2, Tg.ix, Tgs.ix, notOwn, wipeE, restore, tBin, mBin, two, mCst, mVar, atI, ixN, mNeg, mNot, mNotV, mAnd, mOr, tAndM, tOrM, mFn, nFn, DL.args, argSl, given, gv1, back, bk1, Tg.bind, Tgs.bind, Tgs.len, tTrue, mAppend, mCut, mRev, mIndex, sz, partM, e1, fLt, c1, c2, c3, hlf, mkP, fEq_int, fAdd, fCut, fTuple, fLen]
        exact c5
theorem loop_ok (k : Nat) : ∀ (ds : List D) {t : Int} {b : List D} {fs : List Pr} {m : Nat} {o4 o5 o6 : Option Sl}, Box t b → t + 2 * ds.length < 2 ^ 60 → (∀ p ∈ fs, PairOk p) → fs.length + ds.length ≤ 500 → Dat o4 → Dat o5 → Dat o6 →
    ∃ (b' : List D) (fs' : List Pr) (m' : Nat) (o4' o5' o6' : Option Sl), forL (.nm 4) (bodyP (sems (k + 1))) ds [some (.own b), some (.d (.int 9)), some (.own (fs.map mkP)), some (.d (.list (leftL.drop m))), o4, o5, o6, none] = some (.nx, [some (.own b'), some (.d (.int 9)), some (.own (fs'.map mkP)), some (.d (.list (leftL.drop m'))), o4', o5', o6', none]) ∧ Box (t + 2 * ds.length) b' ∧ (∀ p ∈ fs', PairOk p) ∧ fs'.length = fs.length + ds.length
  | [], t, b, fs, m, o4, o5, o6, hb, _, hf, _, _, _, _ => ⟨b, fs, m, o4, o5, o6, rfl, by simpa using hb, hf, rfl⟩
  | d :: ds, t, b, fs, m, o4, o5, o6, hb, ht, hf, hl, h4, h5, h6 => by
    rw [List.length_cons] at ht hl
    obtain ⟨b1, fs1, m1, p5, p6, e, hb1, hf1, hl1, g5, g6⟩ := turn_ok k d hb (by omega) hf (by omega) h4 h5 h6 (m := m)
    obtain ⟨b2, fs2, m2, q4, q5, q6, e2, hb2, hf2, hl2⟩ := loop_ok k ds hb1 (by omega) hf1 (by omega) (.inr ⟨_, rfl⟩) g5 g6 (m := m1)
    refine ⟨b2, fs2, m2, q4, q5, q6, ?_, hb2.mono (by rw [List.length_cons]; omega), hf2, by rw [List.length_cons]; omega⟩
    unfold forL
    cases hB : Tg.bind (.nm 4) d [some (.own b), some (.d (.int 9)), some (.own (fs.map mkP)), some (.d (.list (leftL.drop m))), o4, o5, o6, none] with
    | none => rw [hB] at e; cases e
    | some r1 =>
      rw [hB] at e
      simp only at e ⊢
      rw [e]
      exact e2
theorem rangeD_len : ∀ (a : Int) (n : Nat), (rangeD a n).length = n := fun a n => by
  unfold rangeD
  simp
theorem pairs_ok (k : Nat) {t : Int} {b : List D} (hb : Box t b) (ht : t + 30 < 2 ^ 60) : ∃ (ps : List Pr) (b' : List D), (sems (k + 2)).law_pairs [.own b, .d (.int 9)] = some (.tuple (ps.map mkP), [.own b', .d (.int 9)]) ∧ Box (t + 30) b' ∧ (∀ p ∈ ps, PairOk p) ∧ ps.length ≤ 10 := by
  rw [sems_law_pairs]
  obtain ⟨v, b1, e1, hb1, v0, v1⟩ := take_ok k (n := 10) hb (by omega) (by omega) (by omega)
  obtain ⟨b2, fs, m2, q4, q5, q6, e2, hb2, hf2, hl2⟩ := loop_ok k (rangeD 0 v.toNat) (fs := [putP]) (m := 0) (o4 := none) (o5 := none) (o6 := none) hb1 (by rw [rangeD_len]; omega) (fun p hp => by rw [List.mem_singleton.mp hp]; exact put_ok) (by rw [rangeD_len]; simp; omega) (.inl rfl) (.inl rfl) (.inl rfl)
  rw [rangeD_len] at hb2 hl2
  refine ⟨fs, b2, ?_, hb2.mono (by omega), hf2, by rw [hl2]; simp; omega⟩
  refine run_of (r := [some (.own b2), some (.d (.int 9)), some (.own (fs.map mkP)), some (.d (.list (leftL.drop m2))), q4, q5, q6, none]) rfl ?_ rfl
  unfold b_law_pairs
  have lc1 : lcLoop (.nm 7) tTrue (mTup (aCons (mVar 7) (aCons (mTup (aCons (mCst (.str (Str.ofString "nop"))) aNil)) (aCons (mTup aNil) aNil)))) [7] (letters.map .str) [some (.own b), some (.d (.int 9)), none, none, none, none, none, none] = some ((letters.map .str).map (fun d => .tuple [d, .tuple [.str (Str.ofString "nop")], .tuple []]), [some (.own b), some (.d (.int 9)), none, none, none, none, none, none]) := lc_map _ fun p hp => ⟨[some (.own b), some (.d (.int 9)), none, none, none, none, none, some (.d p)], by simp [runF, DL.runN, ioOk, pad, envOf, sSeq, sRet, sRetN, sIf, sSet, sOwn, sPut, sExpr, sFor, sAug, sUnp, sPar, avs, setsE, sNext, mIf, mTru, mIsi, Opd.here, Opd.pre, Opd.post, Opd.postD, Opd.postR, view, truth, rVar, outs, mCall, preAll, postAll, DL.listOf, nLst, nLc, aNil, aCons, mTup, iData, iRange1, iRange2, DL.iZip, iEnum2, Tg.ix, Tgs.ix, notOwn, wipeE, restore, tBin, mBin, two, mCst, mVar, atI, ixN, mNeg, mNot, mNotV, mAnd, mOr, tAndM, tOrM, mFn, nFn, DL.args, argSl, given, gv1, back, bk1, Tg.bind, Tgs.bind, Tgs.len, tTrue, mAppend, mCut, mRev, mIndex, sz, partM], by simp [runF, DL.runN, ioOk, pad, envOf, sSeq, sRet, sRetN, sIf, sSet, sOwn, sPut, sExpr, sFor, sAug, sUnp, sPar, avs, setsE, sNext, mIf, mTru, mIsi, Opd.here, Opd.pre, Opd.post, Opd.postD, Opd.postR, view, truth, rVar, outs, mCall, preAll, postAll, DL.listOf, nLst, nLc, aNil, aCons, mTup, iData, iRange1, iRange2, DL.iZip, iEnum2, Tg.ix, Tgs.ix, notOwn, wipeE, restore, tBin, mBin, two, mCst, mVar, atI, ixN, mNeg, mNot, mNotV, mAnd, mOr, tAndM, tOrM, mFn, nFn, DL.args, argSl, given, gv1, back, bk1, Tg.bind, Tgs.bind, Tgs.len, tTrue, mAppend, mCut, mRev, mIndex, sz, partM], by simp [runF, DL.runN, ioOk, pad, envOf, sSeq, sRet, sRetN, sIf, sSet, sOwn, sPut, sExpr, sFor, sAug, sUnp, sPar, avs, setsE, sNext, mIf, mTru, mIsi, Opd.here, Opd.pre, Opd.post, Opd.postD, Opd.postR, view, truth, rVar, outs, mCall, preAll, postAll, DL.listOf, nLst, nLc, aNil, aCons, mTup, iData, iRange1, iRange2, DL.iZip, iEnum2, Tg.ix, Tgs.ix, notOwn, wipeE, restore, tBin, mBin, two, mCst, mVar, atI, ixN, mNeg, mNot, mNotV, mAnd, mOr, tAndM, tOrM, mFn, nFn, DL.args, argSl, given, gv1, back, bk1, Tg.bind, Tgs.bind, Tgs.len, tTrue, mAppend, mCut, mRev, mIndex, sz, partM]⟩
  have lc2 : lcLoop (.nm 7) tTrue (mTup (aCons (mVar 7) (aCons (mTup (aCons (mCst (.str (Str.ofString "done"))) aNil)) (aCons (mCst .none) (aCons (mCst (.bool false)) (aCons (mCst (.bool false)) aNil)))))) [7] (letters.map .str) [some (.own b), some (.d (.int 9)), some (.own [mkP putP]), none, none, none, none, none] = some ((letters.map .str).map (fun d => .tuple [d, .tuple [.str (Str.ofString "done")], .none, .bool false, .bool false]), [some (.own b), some (.d (.int 9)), some (.own [mkP putP]), none, none, none, none, none]) := lc_map _ fun p hp => ⟨[some (.own b), some (.d (.int 9)), some (.own [mkP putP]), none, none, none, none, some (.d p)], by simp [runF, DL.runN, ioOk, pad, envOf, sSeq, sRet, sRetN, sIf, sSet, sOwn, sPut, sExpr, sFor, sAug, sUnp, sPar, avs, setsE, sNext, mIf, mTru, mIsi, Opd.here, Opd.pre, Opd.post, Opd.postD, Opd.postR, view, truth, rVar, outs, mCall, preAll, postAll, DL.listOf, nLst, nLc, aNil, aCons, mTup, iData, iRange1, iRange2, DL.iZip, iEnum2, Tg.ix, Tgs.ix, notOwn, wipeE, restore, tBin, mBin, two, mCst, mVar, atI, ixN, mNeg, mNot, mNotV, mAnd, mOr, tAndM, tOrM, mFn, nFn, DL.args, argSl, given, gv1, back, bk1, Tg.bind, Tgs.bind, Tgs.len, tTrue, mAppend, mCut, mRev, mIndex, sz, partM], by simp [runF, DL.runN, ioOk, pad, envOf, sSeq, sRet, sRetN, sIf, sSet, sOwn, sPut, sExpr, sFor, sAug, sUnp, sPar, avs, setsE, sNext, mIf, mTru, mIsi, Opd.here, Opd.pre, Opd.post, Opd.postD, Opd.postR, view, truth, rVar, outs, mCall, preAll, postAll, DL.listOf, nLst, nLc, aNil, aCons, mTup, iData, iRange1, iRange2, DL.iZip, iEnum2, Tg.ix, Tgs.ix, notOwn, wipeE, restore, tBin, mBin, two, mCst, mVar, atI, ixN, mNeg, mNot, mNotV, mAnd, mOr, tAndM, tOrM, mFn, nFn, DL.args, argSl, given, gv1, back, bk1, Tg.bind, Tgs.bind, Tgs.len, tTrue, mAppend, mCut, mRev, mIndex, sz, partM], by simp [runF, DL.runN, ioOk, pad, envOf, sSeq, sRet, sRetN, sIf, sSet, sOwn, sPut, sExpr, sFor, sAug, sUnp, sPar, avs, setsE, sNext, mIf, mTru, mIsi, Opd.here, Opd.pre, Opd.post, Opd.postD, Opd.postR, view, truth, rVar, outs, mCall, preAll, postAll, DL.listOf, nLst, nLc, aNil, aCons, mTup, iData, iRange1, iRange2, DL.iZip, iEnum2, Tg.ix, Tgs.ix, notOwn, wipeE, restore, tBin, mBin, two, mCst, mVar, atI, ixN, mNeg, mNot, mNotV, mAnd, mOr, tAndM, tOrM, mFn, nFn, DL.args, argSl, given, gv1, back, bk1, Tg.bind, Tgs.bind, Tgs.len, tTrue, mAppend, mCut, mRev, mIndex, sz, partM]⟩
  have hll : (letters.map PyData.str).length ≤ sizeLine := by decide
  rw [seq_nx (r1 := [some (.own b), some (.d (.int 9)), some (.own [mkP putP]), none, none, none, none, none]) (by
    generalize hm : (mTup (aCons (mVar 7) (aCons (mTup (aCons (mCst (.str (Str.ofString "nop"))) aNil)) (aCons (mTup aNil) aNil)))) = m at lc1
    have ep : mkP putP = .tuple [.tuple [.str (Str.ofString "put"), .tuple ((letters.map .str).map (fun d => .tuple [d, .tuple [.str (Str.ofString "nop")], .tuple []]))], .none] := rfl
    rw [ep]
    generalize (letters.map PyData.str).map (fun d => PyData.tuple [d, .tuple [.str (Str.ofString "nop")], .tuple []]) = G at *
    generalize hT : tTrue = T at lc1
    generalize hg : letters.map PyData.str = LS at *
    have sg := signs_letters
    rw [hg] at sg
    simp [runF, DL.runN, ioOk, pad, envOf, sSeq, sRet, sRetN, sIf, sSet, sOwn, sPut, sExpr, sFor, sAug, sUnp, sPar, avs, setsE, sNext, mIf, mTru, mIsi, Opd.here, Opd.pre, Opd.post, Opd.postD, Opd.postR, view, truth, rVar, outs, mCall, preAll, postAll, DL.listOf, nLst, nLc, aNil, aCons, mTup, iData, iRange1, iRange2, DL.iZip, iEnum2, Tg.ix, Tgs.ix, notOwn, wipeE, restore, tBin, mBin, two, mCst, mVar, atI, ixN, mNeg, mNot, mNotV, mAnd, mOr, tAndM, tOrM, mFn, nFn, DL.args, argSl, given, gv1, back, bk1, Tg.bind, Tgs.bind, Tgs.len, tTrue, mAppend, mCut, mRev, mIndex, sz, partM, sg, lc1, hll, hT, fTuple])]
  rw [seq_nx (r1 := [some (.own b), some (.d (.int 9)), some (.own [mkP putP]), some (.d (.list leftL)), none, none, none, none]) (by
    generalize hm : (mTup (aCons (mVar 7) (aCons (mTup (aCons (mCst (.str (Str.ofString "done"))) aNil)) (aCons (mCst .none) (aCons (mCst (.bool false)) (aCons (mCst (.bool false)) aNil)))))) = m at lc2
    have ep : leftL = (letters.map .str).map (fun d => .tuple [d, .tuple [.str (Str.ofString "done")], .none, .bool false, .bool false]) := rfl
    rw [ep]
    generalize (letters.map PyData.str).map (fun d => PyData.tuple [d, .tuple [.str (Str.ofString "done")], .none, .bool false, .bool false]) = G at *
    generalize mkP putP = PP at *
    generalize hT : tTrue = T at lc2
    generalize hg : letters.map PyData.str = LS at *
    have sg := signs_letters
    rw [hg] at sg
    simp [runF, DL.runN, ioOk, pad, envOf, sSeq, sRet, sRetN, sIf, sSet, sOwn, sPut, sExpr, sFor, sAug, sUnp, sPar, avs, setsE, sNext, mIf, mTru, mIsi, Opd.here, Opd.pre, Opd.post, Opd.postD, Opd.postR, view, truth, rVar, outs, mCall, preAll, postAll, DL.listOf, nLst, nLc, aNil, aCons, mTup, iData, iRange1, iRange2, DL.iZip, iEnum2, Tg.ix, Tgs.ix, notOwn, wipeE, restore, tBin, mBin, two, mCst, mVar, atI, ixN, mNeg, mNot, mNotV, mAnd, mOr, tAndM, tOrM, mFn, nFn, DL.args, argSl, given, gv1, back, bk1, Tg.bind, Tgs.bind, Tgs.len, tTrue, mAppend, mCut, mRev, mIndex, sz, partM, sg, lc2, hll, hT, fTuple])]
  rw [seq_nx (r1 := [some (.own b2), some (.d (.int 9)), some (.own (fs.map mkP)), some (.d (.list (leftL.drop m2))), q4, q5, q6, none]) (by
    have src : iRange1 (mFn (sems (k + 1)).law_take [(.sl 0), (.ex (mBin false (.sl 1) (.ex (mCst (.int 1))) fAdd))]) [some (.own b), some (.d (.int 9)), some (.own [mkP putP]), some (.d (.list leftL)), none, none, none, none] = some (rangeD 0 v.toNat, [some (.own b1), some (.d (.int 9)), some (.own [mkP putP]), some (.d (.list leftL)), none, none, none, none]) := by
      have c : -(2 ^ 62) ≤ v ∧ v < 2 ^ 62 := by omega
      generalize mkP putP = PP at *
      generalize leftL = LL at *
      simp [runF, DL.runN, ioOk, pad, envOf, sSeq, sRet, sRetN, sIf, sSet, sOwn, sPut, sExpr, sFor, sAug, sUnp, sPar, avs, setsE, sNext, mIf, mTru, mIsi, Opd.here, Opd.pre, Opd.post, Opd.postD, Opd.postR, view, truth, rVar, outs, mCall, preAll, postAll, DL.listOf, nLst, nLc, aNil, aCons, mTup, iData, iRange1, iRange2, DL.iZip, iEnum2, Tg.ix, Tgs.ix, notOwn, wipeE, restore, tBin, mBin, two, mCst, mVar, atI, ixN, mNeg, mNot, mNotV, mAnd, mOr, tAndM, tOrM, mFn, nFn, DL.args, argSl, given, gv1, back, bk1, Tg.bind, Tgs.bind, Tgs.len, tTrue, mAppend, mCut, mRev, mIndex, sz, partM, fAdd, e1, -Int.reduceNeg, -Int.reducePow, c]
    unfold sFor
    rw [src]
    exact e2)]
  rw [seq_ret (r1 := [some (.own b2), some (.d (.int 9)), some (.own (fs.map mkP)), some (.d (.list (leftL.drop m2))), q4, q5, q6, none]) (d := .tuple (fs.map mkP)) (by simp [runF, DL.runN, ioOk, pad, envOf, sSeq, sRet, sRetN, sIf, sSet, sOwn, sPut, sExpr, sFor, sAug, sUnp, sPar, avs, setsE, sNext, mIf, mTru, mIsi, Opd.here, Opd.pre, Opd.post, Opd.postD, Opd.postR, view, truth, rVar, outs, mCall, preAll, postAll, DL.listOf, nLst, nLc, aNil, aCons, mTup, iData, iRange1, iRange2, DL.iZip, iEnum2, Tg.ix, Tgs.ix, notOwn, wipeE, restore, tBin, mBin, two, mCst, mVar, atI, ixN, mNeg, mNot, mNotV, mAnd, mOr, tAndM, tOrM, mFn, nFn, DL.args, argSl, given, gv1, back, bk1, Tg.bind, Tgs.bind, Tgs.len, tTrue, mAppend, mCut, mRev, mIndex, sz, partM, fTuple])]
end K06

namespace K06
open PySem PySem.Spec L2 DL
/-! facts of a list of pairs -/
structure PsOk (ps : List Pr) : Prop where
  all : ∀ p ∈ ps, PairOk p
  len : ps.length ≤ 12
theorem tupL_id : ∀ {xs : List D}, (∀ x ∈ xs, tupD x = x) → tupL xs = xs
  | [], _ => rfl
  | x :: xs, h => by rw [tupL, h x List.mem_cons_self, tupL_id fun y hy => h y (List.mem_cons_of_mem _ hy)]
section
variable {ps : List Pr} (H : PsOk ps)
include H
theorem PsOk.mem {d : D} (h : d ∈ ps.map mkP) : ∃ p, PairOk p ∧ d = mkP p := by
  obtain ⟨p, hp, rfl⟩ := List.mem_map.mp h
  exact ⟨p, H.all p hp, rfl⟩
theorem PsOk.fit : fit 1000 6 (.tuple (ps.map mkP)) = true := fit_of_tuple (by rw [List.length_map]; have := H.len; omega) fun x hx => by
  obtain ⟨p, hp, rfl⟩ := H.mem hx
  exact hp.fit
theorem PsOk.tup : tupD (.tuple (ps.map mkP)) = .tuple (ps.map mkP) := by
  rw [tupD, tupL_id fun x hx => ?_]
  obtain ⟨p, hp, rfl⟩ := H.mem hx
  exact hp.tup
end
theorem sum_le {n : Nat} {f : Pr → Nat} : ∀ {ps : List Pr}, (∀ p ∈ ps, f p ≤ n) → (ps.map f).sum ≤ n * ps.length
  | [], _ => Nat.le_refl _
  | p :: ps, h => by
    have := sum_le (n := n) (f := f) (ps := ps) fun q hq => h q (List.mem_cons_of_mem _ hq)
    have := h p List.mem_cons_self
    rw [List.map_cons, List.sum_cons, List.length_cons, Nat.mul_add]
    omega
theorem wt_sum : ∀ ps : List Pr, wtAll (ps.map mkP) = (ps.map fun p => wt (mkP p) + 2).sum
  | [] => by simp [wtAll]
  | p :: ps => by rw [List.map_cons, wtAll, wt_sum ps, List.map_cons, List.sum_cons]
theorem show_all : ∀ {ps : List Pr}, (∀ p ∈ ps, (mkP p).showable = true) → PyData.showableAll (ps.map mkP) = true
  | [], _ => by simp [PyData.showableAll]
  | p :: ps, h => by
    rw [List.map_cons, PyData.showableAll, h p List.mem_cons_self, show_all fun q hq => h q (List.mem_cons_of_mem _ hq)]
    rfl
section
variable {ps : List Pr} (H : PsOk ps)
include H
theorem PsOk.siz : siz 6 (.tuple (ps.map mkP)) ≤ 12001 := by
  have h1 := H.len
  have : (ps.map fun p => K06.siz 5 (mkP p)).sum ≤ 1000 * ps.length := sum_le (n := 1000) (f := fun p => K06.siz 5 (mkP p)) fun p hp => (H.all p hp).siz
  have e : (ps.map mkP).map (K06.siz 5) = ps.map fun p => K06.siz 5 (mkP p) := by rw [List.map_map]; rfl
  rw [K06.siz, e]
  omega
theorem PsOk.repr : reprOk (.tuple (ps.map mkP)) = true := by
  unfold reprOk
  have h1 := H.len
  have : (ps.map fun p => DL.wt (mkP p) + 2).sum ≤ 10002 * ps.length := sum_le (n := 10002) (f := fun p => DL.wt (mkP p) + 2) fun p hp => by
    have := (H.all p hp).wt
    omega
  have e := wt_sum ps
  have w : wt (.tuple (ps.map mkP)) ≤ 16000000 := by
    rw [wt, e]
    omega
  have s : (PyData.tuple (ps.map mkP)).showable = true := by
    rw [PyData.showable]
    exact show_all fun p hp => (H.all p hp).shw
  rw [s, decide_eq_true w, fit_flat (by omega) H.fit]
  rfl
end
theorem for_of {src : SA} {t : Tg} {m : SS} {r r1 : DL.Env} {ds : List D} {x : Option (Fl × DL.Env)} (h : src r = some (ds, r1)) (e : forL t m ds r1 = x) : sFor src t m r = x := by
  unfold sFor
  rw [h]
  exact e
abbrev bodyR (S : Sems) : SS := (sSeq (sSet 2 (mFn S.law_pairs [(.sl 0), (.ex (mCst (.int 9)))])) (sSeq (sSet 2 (mIf (tBin true (.ex (mBin false (.ex (mCall true [(.sl 1)] fInt)) (.ex (mCst (.int 3))) fMod)) (.ex (mCst (.int 0))) fEq) (mBin false (.sl 2) (.ex (mTup (aCons (mTup (aCons (mTup (aCons (mCst (.str (Str.ofString "quiet"))) aNil)) (aCons (mTup aNil) aNil))) (aCons (mTup (aCons (mTup (aCons (mCst (.str (Str.ofString "reap"))) (aCons (mCst (.int 1)) aNil))) (aCons (mTup aNil) aNil))) aNil)))) fAdd) (mVar 2))) (sSeq (sPar [3, 4, 5] [.d (mFn S.law_mixed [(.sl 0), (.sl 2)]), .d (mFn S.law_shut [(.sl 2)]), .d (mCall true [(.sl 2)] fRepr)]) (sSeq (sSet 6 (DL.listOf (nLst (aCons (mFn S.is_closed [(.sl 2)]) (aCons (mFn S.is_closed [(.ex (mFn S.law_lists [(.sl 2)]))]) (aCons (mFn S.is_closed [(.sl 3)]) aNil)))))) (sSeq (sIf (tOrM (mNot (mTru (.ex (mFn S.law_same [(.sl 6), (.ex (mBin false (.ex (DL.listOf (nLst (aCons (mVar 4) aNil)))) (.ex (mCst (.int 3))) fMul))])))) (tBin true (.ex (mCall true [(.sl 2)] fRepr)) (.sl 5) fNe)) (sSeq (sRet (mCst (.bool false))) sNext) sNext) (sSeq (sSet 7 (mCall true [(.ex (DL.listOf (nLc (iData (.sl 2)) (.nm 8) tTrue (mBin true (.sl 8) (.ex (mCst (.int 0))) fIx))))] fTuple)) (sSeq (sIf (mNot (mTru (.ex (mFn S.law_same [(.ex (DL.listOf (nLst (aCons (mFn S.script_of [(.sl 2)]) (aCons (mFn S.script_of [(.sl 3)]) aNil))))), (.ex (DL.listOf (nLst (aCons (mVar 7) (aCons (mVar 7) aNil)))))])))) (sSeq (sRet (mCst (.bool false))) sNext) sNext) sNext)))))))

def two1 : List Pr := [(wQuiet, [], .tuple []), (wReap, [.int 1], .tuple [])]
theorem two_ok1 : ∀ p ∈ two1, PairOk p := fun p hp => by
  simp only [two1, List.mem_cons, List.not_mem_nil, or_false] at hp
  rcases hp with rfl | rfl <;> exact ⟨by decide +kernel, rfl, by decide +kernel, by decide +kernel, by decide +kernel⟩
theorem turnR {t : Int} {b : List D} {o1 o2 o3 o4 o5 o6 o7 : Option Sl} (i : Int) (hb : Box t b) (ht : t + 13000 < 2 ^ 60) (h1 : Dat o1) : ∃ (b' : List D) (p2 p3 p4 p5 p6 p7 : Option Sl), Box (t + 13000) b' ∧
    ∃ r1, Tg.bind (.nm 1) (.int i) [some (.own b), o1, o2, o3, o4, o5, o6, o7, none] = some r1 ∧ bodyR (sems 8) r1 = some (.nx, [some (.own b'), some (.d (.int i)), p2, p3, p4, p5, p6, p7, none]) := by
  obtain ⟨ps0, b1, e1, hb1, hp0, hl0⟩ := pairs_ok 6 hb (by omega)
  obtain ⟨ps, H, s2⟩ : ∃ ps, PsOk ps ∧ sSet 2 (mIf (tBin true (.ex (mBin false (.ex (mCall true [(.sl 1)] fInt)) (.ex (mCst (.int 3))) fMod)) (.ex (mCst (.int 0))) fEq) (mBin false (.sl 2) (.ex (mTup (aCons (mTup (aCons (mTup (aCons (mCst (.str (Str.ofString "quiet"))) aNil)) (aCons (mTup aNil) aNil))) (aCons (mTup (aCons (mTup (aCons (mCst (.str (Str.ofString "reap"))) (aCons (mCst (.int 1)) aNil))) (aCons (mTup aNil) aNil))) aNil)))) fAdd) (mVar 2)) [some (.own b1), some (.d (.int i)), some (.d (.tuple (ps0.map mkP))), o3, o4, o5, o6, o7, none] = some (.nx, [some (.own b1), some (.d (.int i)), some (.d (.tuple (ps.map mkP))), o3, o4, o5, o6, o7, none]) := by
    by_cases c : i % 3 = 0
    · refine ⟨ps0 ++ two1, ⟨fun p hp => ?_, by rw [List.length_append]; show _ + 2 ≤ _; omega⟩, ?_⟩
      · rcases List.mem_append.mp hp with h | h
        · exact hp0 p h
        · exact two_ok1 p h
      · have hl : (ps0.map mkP).length + 2 ≤ sizeLine := by rw [List.length_map]; exact size1000 (by omega)
        rw [List.map_append]
        have e2 : two1.map mkP = [.tuple [.tuple [.str wQuiet], .tuple []], .tuple [.tuple [.str wReap, .int 1], .tuple []]] := rfl
        rw [e2]
        generalize ps0.map mkP = P0 at *
        simp [runF, DL.runN, ioOk, pad, envOf, sSeq, sRet, sRetN, sIf, sSet, sOwn, sPut, sExpr, sFor, sAug, sUnp, sPar, avs, setsE, sNext, mIf, mTru, mIsi, Opd.here, Opd.pre, Opd.post, Opd.postD, Opd.postR, view, truth, rVar, outs, mCall, preAll, postAll, DL.listOf, nLst, nLc, aNil, aCons, mTup, iData, iRange1, iRange2, DL.iZip, iEnum2, Tg.ix, Tgs.ix, notOwn, wipeE, restore, tBin, mBin, two, mCst, mVar, atI, ixN, mNeg, mNot, mNotV, mAnd, mOr, tAndM, tOrM, mFn, nFn, DL.args, argSl, given, gv1, back, bk1, Tg.bind, Tgs.bind, Tgs.len, tTrue, mAppend, mCut, mRev, mIndex, sz, partM, fInt, fMod, fEq_int, c, fAdd, hl]
    · refine ⟨ps0, ⟨hp0, by omega⟩, ?_⟩
      generalize ps0.map mkP = P0 at *
      simp [runF, DL.runN, ioOk, pad, envOf, sSeq, sRet, sRetN, sIf, sSet, sOwn, sPut, sExpr, sFor, sAug, sUnp, sPar, avs, setsE, sNext, mIf, mTru, mIsi, Opd.here, Opd.pre, Opd.post, Opd.postD, Opd.postR, view, truth, rVar, outs, mCall, preAll, postAll, DL.listOf, nLst, nLc, aNil, aCons, mTup, iData, iRange1, iRange2, DL.iZip, iEnum2, Tg.ix, Tgs.ix, notOwn, wipeE, restore, tBin, mBin, two, mCst, mVar, atI, ixN, mNeg, mNot, mNotV, mAnd, mOr, tAndM, tOrM, mFn, nFn, DL.args, argSl, given, gv1, back, bk1, Tg.bind, Tgs.bind, Tgs.len, tTrue, mAppend, mCut, mRev, mIndex, sz, partM, fInt, fMod, fEq_int, c]
  have hz := H.siz
  obtain ⟨y, b2, e3, hb2, ty, fy⟩ := mixed_ok 6 H.fit hb1 (by omega)
  have hl := H.len
  have e4 := shut_ok 7 (ps := ps) (by omega)
  have rp := H.repr
  have c1 := closed_ok 6 6 (Nat.le_refl 6) H.fit H.tup (by omega)
  have c2 := closed_ok 6 6 (y := lstD (.tuple (ps.map mkP))) (ps := ps) (Nat.le_refl 6) (fit_lstD H.fit) (by rw [tup_lst, H.tup]) (by omega)
  have c3 := closed_ok 6 6 (ps := ps) (Nat.le_refl 6) fy (by rw [ty, H.tup]) (by omega)
  have l1 := lists_ok 7 (fit_mono (by omega : 6 ≤ 7) H.fit)
  have g1 := script_ok 6 6 (Nat.le_refl 6) H.fit H.tup (by omega)
  have g2 := script_ok 6 6 (ps := ps) (Nat.le_refl 6) fy (by rw [ty, H.tup]) (by omega)
  have sm1 := same_refl 7 (d := .list [.bool (closedB ps), .bool (closedB ps), .bool (closedB ps)]) (by omega) (by cases closedB ps <;> decide)
  have fev : fit 1000 6 (.tuple (ps.map evOf)) = true := fit_of_tuple (by rw [List.length_map]; omega) fun x hx => by
    obtain ⟨p, hp, rfl⟩ := List.mem_map.mp hx
    obtain ⟨j, e, _, h2⟩ := fit_tuple (H.all p hp).fit
    cases e
    exact fit_mono (by omega) (h2 (evOf p) List.mem_cons_self)
  have sm2 := same_refl 7 (d := .list [.tuple (ps.map evOf), .tuple (ps.map evOf)]) (by omega) (fit_of_list (by simp) fun x hx => by
    simp only [List.mem_cons, List.not_mem_nil, or_false, or_self] at hx
    rw [hx]; exact fev)
  refine ⟨b2, some (.d (.tuple (ps.map mkP))), some (.d y), some (.d (.bool (closedB ps))), some (.d (.str (PyData.shown (.tuple (ps.map mkP))))), some (.d (.list [.bool (closedB ps), .bool (closedB ps), .bool (closedB ps)])), some (.d (.tuple (ps.map evOf))), hb2.mono (by omega), [some (.own b), some (.d (.int i)), o2, o3, o4, o5, o6, o7, none], ?_, ?_⟩
  · rcases h1 with rfl | ⟨x, rfl⟩ <;> simp [runF, DL.runN, ioOk, pad, envOf, sSeq, sRet, sRetN, sIf, sSet, sOwn, sPut, sExpr, sFor, sAug, sUnp, sPar, avs, setsE, sNext, mIf, mTru, mIsi, Opd.here, Opd.pre, Opd.post, Opd.postD, Opd.postR, view, truth, rVar, outs, mCall, preAll, postAll, DL.listOf, nLst, nLc, aNil, aCons, mTup, iData, iRange1, iRange2, DL.iZip, iEnum2, Tg.ix, Tgs.ix, notOwn, wipeE, restore, tBin, mBin, two, mCst, mVar, atI, ixN, mNeg, mNot, mNotV, mAnd, mOr, tAndM, tOrM, mFn, nFn, DL.args, argSl, given, gv1, back, bk1, Tg.bind, Tgs.bind, Tgs.len, tTrue, mAppend, mCut, mRev, mIndex, sz, partM]
  unfold bodyR
  rw [seq_nx (r1 := [some (.own b1), some (.d (.int i)), some (.d (.tuple (ps0.map mkP))), o3, o4, o5, o6, o7, none]) (by
    generalize ps0.map mkP = P0 at *
    simp [runF, DL.runN, ioOk, pad, envOf, sSeq, sRet, sRetN, sIf, sSet, sOwn, sPut, sExpr, sFor, sAug, sUnp, sPar, avs, setsE, sNext, mIf, mTru, mIsi, Opd.here, Opd.pre, Opd.post, Opd.postD, Opd.postR, view, truth, rVar, outs, mCall, preAll, postAll, DL.listOf, nLst, nLc, aNil, aCons, mTup, iData, iRange1, iRange2, DL.iZip, iEnum2, Tg.ix, Tgs.ix, notOwn, wipeE, restore, tBin, mBin, two, mCst, mVar, atI, ixN, mNeg, mNot, mNotV, mAnd, mOr, tAndM, tOrM, mFn, nFn, DL.args, argSl, given, gv1, back, bk1, Tg.bind, Tgs.bind, Tgs.len, tTrue, mAppend, mCut, mRev, mIndex, sz, partM, e1])]
  rw [seq_nx s2]
  clear s2 e1 hp0 hl0
  have lc : lcLoop (.nm 8) tTrue (mBin true (.sl 8) (.ex (mCst (.int 0))) fIx) [8] (ps.map mkP) [some (.own b2), some (.d (.int i)), some (.d (.tuple (ps.map mkP))), some (.d y), some (.d (.bool (closedB ps))), some (.d (.str (PyData.shown (.tuple (ps.map mkP))))), some (.d (.list [.bool (closedB ps), .bool (closedB ps), .bool (closedB ps)])), o7, none] = some ((ps.map mkP).map hdD, [some (.own b2), some (.d (.int i)), some (.d (.tuple (ps.map mkP))), some (.d y), some (.d (.bool (closedB ps))), some (.d (.str (PyData.shown (.tuple (ps.map mkP))))), some (.d (.list [.bool (closedB ps), .bool (closedB ps), .bool (closedB ps)])), o7, none]) := lc_map hdD fun p hp => by
    obtain ⟨q, _, rfl⟩ := List.mem_map.mp hp
    generalize ps.map mkP = P at *
    exact ⟨[some (.own b2), some (.d (.int i)), some (.d (.tuple P)), some (.d y), some (.d (.bool (closedB ps))), some (.d (.str (PyData.shown (.tuple P)))), some (.d (.list [.bool (closedB ps), .bool (closedB ps), .bool (closedB ps)])), o7, some (.d (mkP q))], by simp [runF, DL.runN, ioOk, pad, envOf, sSeq, sRet, sRetN, sIf, sSet, sOwn, sPut, sExpr, sFor, sAug, sUnp, sPar, avs, setsE, sNext, mIf, mTru, mIsi, Opd.here, Opd.pre, Opd.post, Opd.postD, Opd.postR, view, truth, rVar, outs, mCall, preAll, postAll, DL.listOf, nLst, nLc, aNil, aCons, mTup, iData, iRange1, iRange2, DL.iZip, iEnum2, Tg.ix, Tgs.ix, notOwn, wipeE, restore, tBin, mBin, two, mCst, mVar, atI, ixN, mNeg, mNot, mNotV, mAnd, mOr, tAndM, tOrM, mFn, nFn, DL.args, argSl, given, gv1, back, bk1, Tg.bind, Tgs.bind, Tgs.len, tTrue, mAppend, mCut, mRev, mIndex, sz, partM], by simp [runF, DL.runN, ioOk, pad, envOf, sSeq, sRet, sRetN, sIf, sSet, sOwn, sPut, sExpr, sFor, sAug, sUnp, sPar, avs, setsE, sNext, mIf, mTru, mIsi, Opd.here, Opd.pre, Opd.post, Opd.postD, Opd.postR, view, truth, rVar, outs, mCall, preAll, postAll, DL.listOf, nLst, nLc, aNil, aCons, mTup, iData, iRange1, iRange2, DL.iZip, iEnum2, Tg.ix, Tgs.ix, notOwn, wipeE, restore, tBin, mBin, two, mCst, mVar, at0, at1, at2, mNeg, mNot, mNotV, mAnd, mOr, tAndM, tOrM, mFn, nFn, DL.args, argSl, given, gv1, back, bk1, Tg.bind, Tgs.bind, Tgs.len, tTrue, mAppend, mCut, mRev, mIndex, sz, partM, fIx, mkP, hdD], by simp [runF, DL.runN, ioOk, pad, envOf, sSeq, sRet, sRetN, sIf, sSet, sOwn, sPut, sExpr, sFor, sAug, sUnp, sPar, avs, setsE, sNext, mIf, mTru, mIsi, Opd.here, Opd.pre, Opd.post, Opd.postD, Opd.postR, view, truth, rVar, outs, mCall, preAll, postAll, DL.listOf, nLst, nLc, aNil, aCons, mTup, iData, iRange1, iRange2, DL.iZip, iEnum2, Tg.ix, Tgs.ix, notOwn, wipeE, restore, tBin, mBin, two, mCst, mVar, atI, ixN, mNeg, mNot, mNotV, mAnd, mOr, tAndM, tOrM, mFn, nFn, DL.args, argSl, given, gv1, back, bk1, Tg.bind, Tgs.bind, Tgs.len, tTrue, mAppend, mCut, mRev, mIndex, sz, partM]⟩
  have et : (ps.map mkP).map hdD = ps.map evOf := by rw [List.map_map]; rfl
  rw [et] at lc
  have hs : (ps.map mkP).length ≤ sizeLine := by rw [List.length_map]; exact size1000 (by omega)
  clear H hz hl fev et fy ty
  generalize hP : ps.map mkP = P at *
  generalize ps.map evOf = E at *
  generalize closedB ps = c at *
  generalize lstD (.tuple P) = L at *
  generalize hSh : PyData.shown (.tuple P) = Sh at *
  have fr : fRepr [.tuple P] = some (.str Sh) := by
    show (if reprOk (.tuple P) = true then some (PyData.str (PyData.shown (.tuple P))) else none) = _
    rw [if_pos rp, hSh]
  have fne : fNe (.str Sh) (.str Sh) = some (.bool false) := by rw [fNe_str, beq_self_eq_true]; rfl
  have fm : fMul (.list [.bool c]) (.int 3) = some (.list [.bool c, .bool c, .bool c]) := by
    cases c <;> rfl
  rw [seq_nx (r1 := [some (.own b2), some (.d (.int i)), some (.d (.tuple P)), some (.d y), some (.d (.bool c)), some (.d (.str Sh)), o6, o7, none]) (by simp [runF, DL.runN, ioOk, pad, envOf, sSeq, sRet, sRetN, sIf, sSet, sOwn, sPut, sExpr, sFor, sAug, sUnp, sPar, avs, setsE, sNext, mIf, mTru, mIsi, Opd.here, Opd.pre, Opd.post, Opd.postD, Opd.postR, view, truth, rVar, outs, mCall, preAll, postAll, DL.listOf, nLst, nLc, aNil, aCons, mTup, iData, iRange1, iRange2, DL.iZip, iEnum2, Tg.ix, Tgs.ix, notOwn, wipeE, restore, tBin, mBin, two, mCst, mVar, atI, ixN, mNeg, mNot, mNotV, mAnd, mOr, tAndM, tOrM, mFn, nFn, DL.args, argSl, given, gv1, back, bk1, Tg.bind, Tgs.bind, Tgs.len, tTrue, mAppend, mCut, mRev, mIndex, sz, partM, e3, e4, fr])]
  rw [seq_nx (r1 := [some (.own b2), some (.d (.int i)), some (.d (.tuple P)), some (.d y), some (.d (.bool c)), some (.d (.str Sh)), some (.d (.list [.bool c, .bool c, .bool c])), o7, none]) (by simp [runF, DL.runN, ioOk, pad, envOf, sSeq, sRet, sRetN, sIf, sSet, sOwn, sPut, sExpr, sFor, sAug, sUnp, sPar, avs, setsE, sNext, mIf, mTru, mIsi, Opd.here, Opd.pre, Opd.post, Opd.postD, Opd.postR, view, truth, rVar, outs, mCall, preAll, postAll, DL.listOf, nLst, nLc, aNil, aCons, mTup, iData, iRange1, iRange2, DL.iZip, iEnum2, Tg.ix, Tgs.ix, notOwn, wipeE, restore, tBin, mBin, two, mCst, mVar, atI, ixN, mNeg, mNot, mNotV, mAnd, mOr, tAndM, tOrM, mFn, nFn, DL.args, argSl, given, gv1, back, bk1, Tg.bind, Tgs.bind, Tgs.len, tTrue, mAppend, mCut, mRev, mIndex, sz, partM, c1, c2, c3, l1])]
  rw [seq_nx (r1 := [some (.own b2), some (.d (.int i)), some (.d (.tuple P)), some (.d y), some (.d (.bool c)), some (.d (.str Sh)), some (.d (.list [.bool c, .bool c, .bool c])), o7, none]) (by simp [runF, DL.runN, ioOk, pad, envOf, sSeq, sRet, sRetN, sIf, sSet, sOwn, sPut, sExpr, sFor, sAug, sUnp, sPar, avs, setsE, sNext, mIf, mTru, mIsi, Opd.here, Opd.pre, Opd.post, Opd.postD, Opd.postR, view, truth, rVar, outs, mCall, preAll, postAll, DL.listOf, nLst, nLc, aNil, aCons, mTup, iData, iRange1, iRange2, DL.iZip, iEnum2, Tg.ix, Tgs.ix, notOwn, wipeE, restore, tBin, mBin, two, mCst, mVar, atI, ixN, mNeg, mNot, mNotV, mAnd, mOr, tAndM, tOrM, mFn, nFn, DL.args, argSl, given, gv1, back, bk1, Tg.bind, Tgs.bind, Tgs.len, tTrue, mAppend, mCut, mRev, mIndex, sz, partM, sm1, fr, fne, fm])]
  rw [seq_nx (r1 := [some (.own b2), some (.d (.int i)), some (.d (.tuple P)), some (.d y), some (.d (.bool c)), some (.d (.str Sh)), some (.d (.list [.bool c, .bool c, .bool c])), some (.d (.tuple E)), none]) (by
    generalize hm : (mBin true (.sl 8) (.ex (mCst (.int 0))) fIx) = m at lc
    generalize hT : tTrue = T at lc
    simp [runF, DL.runN, ioOk, pad, envOf, sSeq, sRet, sRetN, sIf, sSet, sOwn, sPut, sExpr, sFor, sAug, sUnp, sPar, avs, setsE, sNext, mIf, mTru, mIsi, Opd.here, Opd.pre, Opd.post, Opd.postD, Opd.postR, view, truth, rVar, outs, mCall, preAll, postAll, DL.listOf, nLst, nLc, aNil, aCons, mTup, iData, iRange1, iRange2, DL.iZip, iEnum2, Tg.ix, Tgs.ix, notOwn, wipeE, restore, tBin, mBin, two, mCst, mVar, atI, ixN, mNeg, mNot, mNotV, mAnd, mOr, tAndM, tOrM, mFn, nFn, DL.args, argSl, given, gv1, back, bk1, Tg.bind, Tgs.bind, Tgs.len, tTrue, mAppend, mCut, mRev, mIndex, sz, partM, lc, hs, hT, fTuple])]
  rw [seq_nx (r1 := [some (.own b2), some (.d (.int i)), some (.d (.tuple P)), some (.d y), some (.d (.bool c)), some (.d (.str Sh)), some (.d (.list [.bool c, .bool c, .bool c])), some (.d (.tuple E)), none]) (by simp [runF, DL.runN, ioOk, pad, envOf, sSeq, sRet, sRetN, sIf, sSet, sOwn, sPut, sExpr, sFor, sAug, sUnp, sPar, avs, setsE, sNext, mIf, mTru, mIsi, Opd.here, Opd.pre, Opd.post, Opd.postD, Opd.postR, view, truth, rVar, outs, mCall, preAll, postAll, DL.listOf, nLst, nLc, aNil, aCons, mTup, iData, iRange1, iRange2, DL.iZip, iEnum2, Tg.ix, Tgs.ix, notOwn, wipeE, restore, tBin, mBin, two, mCst, mVar, atI, ixN, mNeg, mNot, mNotV, mAnd, mOr, tAndM, tOrM, mFn, nFn, DL.args, argSl, given, gv1, back, bk1, Tg.bind, Tgs.bind, Tgs.len, tTrue, mAppend, mCut, mRev, mIndex, sz, partM, g1, g2, sm2])]
  rfl
theorem loopR : ∀ (is : List Int) {t : Int} {b : List D} {o1 o2 o3 o4 o5 o6 o7 : Option Sl}, Box t b → t + 13000 * is.length < 2 ^ 60 → Dat o1 → ∃ (b' : List D) (p1 p2 p3 p4 p5 p6 p7 : Option Sl), Box (t + 13000 * is.length) b' ∧
    forL (.nm 1) (bodyR (sems 8)) (is.map .int) [some (.own b), o1, o2, o3, o4, o5, o6, o7, none] = some (.nx, [some (.own b'), p1, p2, p3, p4, p5, p6, p7, none])
  | [], t, b, o1, o2, o3, o4, o5, o6, o7, hb, _, _ => ⟨b, o1, o2, o3, o4, o5, o6, o7, by simpa using hb, rfl⟩
  | i :: is, t, b, o1, o2, o3, o4, o5, o6, o7, hb, ht, h1 => by
    rw [List.length_cons] at ht ⊢
    obtain ⟨b1, p2, p3, p4, p5, p6, p7, hb1, r1, e1, e2⟩ := turnR (o2 := o2) (o3 := o3) (o4 := o4) (o5 := o5) (o6 := o6) (o7 := o7) i hb (by omega) h1
    obtain ⟨b2, q1, q2, q3, q4, q5, q6, q7, hb2, e3⟩ := loopR is (o2 := p2) (o3 := p3) (o4 := p4) (o5 := p5) (o6 := p6) (o7 := p7) hb1 (by omega) (.inr ⟨.int i, rfl⟩)
    refine ⟨b2, q1, q2, q3, q4, q5, q6, q7, hb2.mono (by omega), ?_⟩
    rw [List.map_cons]
    unfold forL
    rw [e1]
    simp only
    rw [e2]
    exact e3
theorem right_ok {t : Int} {b : List D} (hb : Box t b) (ht : t + 130000 < 2 ^ 60) : ∃ b', Box (t + 130000) b' ∧ (sems 9).law_right [.own b] = some (.bool true, [.own b']) := by
  obtain ⟨b', p1, p2, p3, p4, p5, p6, p7, hb', e⟩ := loopR [0, 1, 2, 3, 4, 5, 6, 7, 8, 9] (o1 := none) (o2 := none) (o3 := none) (o4 := none) (o5 := none) (o6 := none) (o7 := none) hb (by simp only [List.length_cons, List.length_nil]; omega) (.inl rfl)
  refine ⟨b', hb'.mono (by simp only [List.length_cons, List.length_nil]; omega), ?_⟩
  rw [sems_law_right]
  refine run_of (r := [some (.own b'), p1, p2, p3, p4, p5, p6, p7, none]) rfl ?_ rfl
  unfold b_law_right
  have src : iRange1 (mCst (.int 10)) [some (.own b), none, none, none, none, none, none, none, none] = some (([0, 1, 2, 3, 4, 5, 6, 7, 8, 9] : List Int).map .int, [some (.own b), none, none, none, none, none, none, none, none]) := rfl
  rw [seq_nx (r1 := [some (.own b'), p1, p2, p3, p4, p5, p6, p7, none]) (by
    exact for_of src e)]
  have c1 := closed_ok 6 6 (y := .tuple []) (ps := []) (Nat.le_refl 6) rfl rfl (by simp)
  have g1 := script_ok 6 6 (y := .tuple []) (ps := []) (Nat.le_refl 6) rfl rfl (by simp)
  have cb : closedB [] = false := rfl
  rw [cb] at c1
  have ee : List.map evOf [] = [] := rfl
  rw [ee] at g1
  have sm := same_refl 7 (d := .list [.bool false, .tuple []]) (by omega) (by decide)
  rw [seq_ret (r1 := [some (.own b'), p1, p2, p3, p4, p5, p6, p7, none]) (d := .bool true) (by simp [runF, DL.runN, ioOk, pad, envOf, sSeq, sRet, sRetN, sIf, sSet, sOwn, sPut, sExpr, sFor, sAug, sUnp, sPar, avs, setsE, sNext, mIf, mTru, mIsi, Opd.here, Opd.pre, Opd.post, Opd.postD, Opd.postR, view, truth, rVar, outs, mCall, preAll, postAll, DL.listOf, nLst, nLc, aNil, aCons, mTup, iData, iRange1, iRange2, DL.iZip, iEnum2, Tg.ix, Tgs.ix, notOwn, wipeE, restore, tBin, mBin, two, mCst, mVar, atI, ixN, mNeg, mNot, mNotV, mAnd, mOr, tAndM, tOrM, mFn, nFn, DL.args, argSl, given, gv1, back, bk1, Tg.bind, Tgs.bind, Tgs.len, tTrue, mAppend, mCut, mRev, mIndex, sz, partM, c1, g1, sm])]
end K06

namespace K06
open PySem PySem.Spec L2 DL
abbrev bodyL (S : Sems) : SS := (sSeq (sOwn 2 (nFn S.law_box [(.sl 0), (.sl 1)])) (sSeq (sIf (mNot (mTru (.ex (mCall true [(.ex (DL.listOf (nLc (iRange1 (mCst (.int 2))) (.nm 3) tTrue (mFn S.law_right [(.sl 2)]))))] fAll)))) (sSeq (sRet (mCst (.bool false))) sNext) sNext) sNext))
theorem turnL {ns : List Int} {o1 o2 : Option Sl} (i : Nat) (hi : i ≤ 63) (h1 : Dat o1) : ∃ (b' : List D), ∃ r1, Tg.bind (.nm 1) (.int i) [some (.scr ns), o1, o2, none] = some r1 ∧ bodyL (sems 9) r1 = some (.nx, [some (.scr ns), some (.d (.int i)), some (.own b'), none]) := by
  obtain ⟨b, e1, hb⟩ := box_ok 8 ns i hi
  obtain ⟨b1, hb1, e2⟩ := right_ok hb (by omega)
  obtain ⟨b2, hb2, e3⟩ := right_ok hb1 (by omega)
  refine ⟨b2, [some (.scr ns), some (.d (.int i)), o2, none], ?_, ?_⟩
  · rcases h1 with rfl | ⟨x, rfl⟩ <;> simp [runF, DL.runN, ioOk, pad, envOf, sSeq, sRet, sRetN, sIf, sSet, sOwn, sPut, sExpr, sFor, sAug, sUnp, sPar, avs, setsE, sNext, mIf, mTru, mIsi, Opd.here, Opd.pre, Opd.post, Opd.postD, Opd.postR, view, truth, rVar, outs, mCall, preAll, postAll, DL.listOf, nLst, nLc, aNil, aCons, mTup, iData, iRange1, iRange2, DL.iZip, iEnum2, Tg.ix, Tgs.ix, notOwn, wipeE, restore, tBin, mBin, two, mCst, mVar, atI, ixN, mNeg, mNot, mNotV, mAnd, mOr, tAndM, tOrM, mFn, nFn, DL.args, argSl, given, gv1, back, bk1, Tg.bind, Tgs.bind, Tgs.len, tTrue, mAppend, mCut, mRev, mIndex, sz, partM]
  unfold bodyL
  rw [seq_nx (r1 := [some (.scr ns), some (.d (.int i)), some (.own b), none]) (by simp [runF, DL.runN, ioOk, pad, envOf, sSeq, sRet, sRetN, sIf, sSet, sOwn, sPut, sExpr, sFor, sAug, sUnp, sPar, avs, setsE, sNext, mIf, mTru, mIsi, Opd.here, Opd.pre, Opd.post, Opd.postD, Opd.postR, view, truth, rVar, outs, mCall, preAll, postAll, DL.listOf, nLst, nLc, aNil, aCons, mTup, iData, iRange1, iRange2, DL.iZip, iEnum2, Tg.ix, Tgs.ix, notOwn, wipeE, restore, tBin, mBin, two, mCst, mVar, atI, ixN, mNeg, mNot, mNotV, mAnd, mOr, tAndM, tOrM, mFn, nFn, DL.args, argSl, given, gv1, back, bk1, Tg.bind, Tgs.bind, Tgs.len, tTrue, mAppend, mCut, mRev, mIndex, sz, partM, e1])]
  have lc : lcLoop (.nm 3) tTrue (mFn (sems 9).law_right [(.sl 2)]) [3] (rangeD 0 2) [some (.scr ns), some (.d (.int i)), some (.own b), none] = some ([.bool true, .bool true], [some (.scr ns), some (.d (.int i)), some (.own b2), none]) := by
    have er : rangeD 0 2 = [.int 0, .int 1] := rfl
    rw [er]
    simp [runF, DL.runN, ioOk, pad, envOf, sSeq, sRet, sRetN, sIf, sSet, sOwn, sPut, sExpr, sFor, sAug, sUnp, sPar, avs, setsE, sNext, mIf, mTru, mIsi, Opd.here, Opd.pre, Opd.post, Opd.postD, Opd.postR, view, truth, rVar, outs, mCall, preAll, postAll, DL.listOf, nLst, nLc, aNil, aCons, mTup, iData, iRange1, iRange2, DL.iZip, iEnum2, Tg.ix, Tgs.ix, notOwn, wipeE, restore, tBin, mBin, two, mCst, mVar, atI, ixN, mNeg, mNot, mNotV, mAnd, mOr, tAndM, tOrM, mFn, nFn, DL.args, argSl, given, gv1, back, bk1, Tg.bind, Tgs.bind, Tgs.len, tTrue, mAppend, mCut, mRev, mIndex, sz, partM, lcLoop, e2, e3]
  rw [seq_nx (r1 := [some (.scr ns), some (.d (.int i)), some (.own b2), none]) (by
    have hl : (rangeD 0 2).length ≤ sizeLine := by decide
    generalize hR : rangeD 0 2 = R at *
    generalize hm : mFn (sems 9).law_right [(.sl 2)] = m at lc
    generalize hT : tTrue = T at lc
    simp [runF, DL.runN, ioOk, pad, envOf, sSeq, sRet, sRetN, sIf, sSet, sOwn, sPut, sExpr, sFor, sAug, sUnp, sPar, avs, setsE, sNext, mIf, mTru, mIsi, Opd.here, Opd.pre, Opd.post, Opd.postD, Opd.postR, view, truth, rVar, outs, mCall, preAll, postAll, DL.listOf, nLst, nLc, aNil, aCons, mTup, iData, iRange1, iRange2, DL.iZip, iEnum2, Tg.ix, Tgs.ix, notOwn, wipeE, restore, tBin, mBin, two, mCst, mVar, atI, ixN, mNeg, mNot, mNotV, mAnd, mOr, tAndM, tOrM, mFn, nFn, DL.args, argSl, given, gv1, back, bk1, Tg.bind, Tgs.bind, Tgs.len, tTrue, mAppend, mCut, mRev, mIndex, sz, partM, hR, hT, lc, hl, fAll, boolsOf])]
  rfl
theorem loopL {ns : List Int} : ∀ (is : List Nat) {o1 o2 : Option Sl}, (∀ i ∈ is, i ≤ 63) → Dat o1 → ∃ (p1 p2 : Option Sl), forL (.nm 1) (bodyL (sems 9)) (is.map fun (i : Nat) => PyData.int (i : Int)) [some (.scr ns), o1, o2, none] = some (.nx, [some (.scr ns), p1, p2, none])
  | [], o1, o2, _, _ => ⟨o1, o2, rfl⟩
  | i :: is, o1, o2, hi, h1 => by
    obtain ⟨b1, r1, e1, e2⟩ := turnL (ns := ns) (o2 := o2) i (hi i List.mem_cons_self) h1
    obtain ⟨q1, q2, e3⟩ := loopL (ns := ns) is (o2 := some (.own b1)) (fun j hj => hi j (List.mem_cons_of_mem _ hj)) (.inr ⟨.int i, rfl⟩)
    refine ⟨q1, q2, ?_⟩
    rw [List.map_cons]
    unfold forL
    rw [e1]
    simp only
    rw [e2]
    exact e3
def depth : Nat := 10
theorem plain (ns : List Int) (h : ns.length ≤ 63) (hb : ∀ z ∈ ns, Builtin.Int.intBits z ≤ 1048576) : ∃ as', (sems depth).law [.scr ns] = some (.bool true, as') := by
  show ∃ as', (sems (9 + 1)).law [.scr ns] = some (.bool true, as')
  rw [sems_law]
  obtain ⟨p1, p2, e⟩ := loopL (ns := ns) (List.range (1 + min 3 ns.length)) (o1 := none) (o2 := none) (fun i hi => by have := List.mem_range.mp hi; omega) (.inl rfl)
  refine ⟨[.scr ns], run_of (r := [some (.scr ns), p1, p2, none]) rfl ?_ rfl⟩
  unfold b_law
  have src : iRange1 (mBin false (.ex (mCst (.int 1))) (.ex (mCall true [(.ex (mCst (.int 3))), (.ex (mCall true [(.sl 0)] fLen))] fMin)) fAdd) (pad 4 [.scr ns]) = some ((List.range (1 + min 3 ns.length)).map (fun (i : Nat) => PyData.int (i : Int)), [some (.scr ns), none, none, none]) := by
    have e1 : (1 + (if (ns.length : Int) < 3 then (ns.length : Int) else 3)) = ((1 + min 3 ns.length : Nat) : Int) := by split <;> omega
    have e2 : rangeD 0 (1 + min 3 ns.length) = (List.range (1 + min 3 ns.length)).map (fun (i : Nat) => PyData.int (i : Int)) := by
      unfold rangeD
      refine List.map_congr_left fun i _ => ?_
      rw [Int.zero_add]
    rw [← e2]
    have e3 : -(2 ^ 62) ≤ ((1 + min 3 ns.length : Nat) : Int) ∧ ((1 + min 3 ns.length : Nat) : Int) < 2 ^ 62 := by omega
    have e4 : mBin false (.ex (mCst (.int 1))) (.ex (mCall true [(.ex (mCst (.int 3))), (.ex (mCall true [(.sl 0)] fLen))] fMin)) fAdd (pad 4 [.scr ns]) = some (.int ((1 + min 3 ns.length : Nat) : Int), [some (.scr ns), none, none, none]) := by
      rw [← e1]
      simp [runF, DL.runN, ioOk, pad, envOf, sSeq, sRet, sRetN, sIf, sSet, sOwn, sPut, sExpr, sFor, sAug, sUnp, sPar, avs, setsE, sNext, mIf, mTru, mIsi, Opd.here, Opd.pre, Opd.post, Opd.postD, Opd.postR, view, truth, rVar, outs, mCall, preAll, postAll, DL.listOf, nLst, nLc, aNil, aCons, mTup, iData, iRange1, iRange2, DL.iZip, iEnum2, Tg.ix, Tgs.ix, notOwn, wipeE, restore, tBin, mBin, two, mCst, mVar, atI, ixN, mNeg, mNot, mNotV, mAnd, mOr, tAndM, tOrM, mFn, nFn, DL.args, argSl, given, gv1, back, bk1, Tg.bind, Tgs.bind, Tgs.len, tTrue, mAppend, mCut, mRev, mIndex, sz, partM, fLen, fMin, fAdd]
    unfold iRange1
    rw [e4]
    simp only
    rw [if_pos e3]
    rfl
  rw [seq_nx (r1 := [some (.scr ns), p1, p2, none]) (for_of src e)]
  rfl
end K06

namespace K06
open PySem PySem.Spec L2 DL
theorem tab {K : PySem.W.Frag} {h : Heap} {mg : Str → Option Value} (X : K.In h) (G : h.Ns mainGlobals mg)
    {f0 : Addr} {od0 an0 : Option Addr} {sl0 : Array (Option Value)} {oc0 kV0 dc0 pm0 cd0 ct0 : Value} (a0 : PySem.W.nsIn K mainGlobals "tupled" = some (some (.ref f0)))
    (l0 : K.lookup f0 = some ⟨oc0, od0, .func (PySem.W.fnOf "tupled" "tupled" (defArgs (top 1)) (defBody (top 1)) (defScope (top 1)) .none kV0 dc0 pm0 an0 cd0 ct0), sl0⟩) (c0 : PySem.W.codeIn K cd0 "tupled" = true) (k0 : PySem.W.keepIn K (.ref f0) = true)
    {f1 : Addr} {od1 an1 : Option Addr} {sl1 : Array (Option Value)} {oc1 kV1 dc1 pm1 cd1 ct1 : Value} (a1 : PySem.W.nsIn K mainGlobals "script_of" = some (some (.ref f1)))
    (l1 : K.lookup f1 = some ⟨oc1, od1, .func (PySem.W.fnOf "script_of" "script_of" (defArgs (top 3)) (defBody (top 3)) (defScope (top 3)) .none kV1 dc1 pm1 an1 cd1 ct1), sl1⟩) (c1 : PySem.W.codeIn K cd1 "script_of" = true) (k1 : PySem.W.keepIn K (.ref f1) = true)
    {f2 : Addr} {od2 an2 : Option Addr} {sl2 : Array (Option Value)} {oc2 kV2 dc2 pm2 cd2 ct2 : Value} (a2 : PySem.W.nsIn K mainGlobals "is_closed" = some (some (.ref f2)))
    (l2 : K.lookup f2 = some ⟨oc2, od2, .func (PySem.W.fnOf "is_closed" "is_closed" (defArgs (top 4)) (defBody (top 4)) (defScope (top 4)) .none kV2 dc2 pm2 an2 cd2 ct2), sl2⟩) (c2 : PySem.W.codeIn K cd2 "is_closed" = true) (k2 : PySem.W.keepIn K (.ref f2) = true)
    {f3 : Addr} {od3 an3 : Option Addr} {sl3 : Array (Option Value)} {oc3 kV3 dc3 pm3 cd3 ct3 : Value} (a3 : PySem.W.nsIn K mainGlobals "_law_take" = some (some (.ref f3)))
    (l3 : K.lookup f3 = some ⟨oc3, od3, .func (PySem.W.fnOf "_law_take" "_law_take" (defArgs (top 6)) (defBody (top 6)) (defScope (top 6)) .none kV3 dc3 pm3 an3 cd3 ct3), sl3⟩) (c3 : PySem.W.codeIn K cd3 "_law_take" = true) (k3 : PySem.W.keepIn K (.ref f3) = true)
    {f4 : Addr} {od4 an4 : Option Addr} {sl4 : Array (Option Value)} {oc4 kV4 dc4 pm4 cd4 ct4 : Value} (a4 : PySem.W.nsIn K mainGlobals "_law_mixed" = some (some (.ref f4)))
    (l4 : K.lookup f4 = some ⟨oc4, od4, .func (PySem.W.fnOf "_law_mixed" "_law_mixed" (defArgs (top 7)) (defBody (top 7)) (defScope (top 7)) .none kV4 dc4 pm4 an4 cd4 ct4), sl4⟩) (c4 : PySem.W.codeIn K cd4 "_law_mixed" = true) (k4 : PySem.W.keepIn K (.ref f4) = true)
    {f5 : Addr} {od5 an5 : Option Addr} {sl5 : Array (Option Value)} {oc5 kV5 dc5 pm5 cd5 ct5 : Value} (a5 : PySem.W.nsIn K mainGlobals "_law_lists" = some (some (.ref f5)))
    (l5 : K.lookup f5 = some ⟨oc5, od5, .func (PySem.W.fnOf "_law_lists" "_law_lists" (defArgs (top 8)) (defBody (top 8)) (defScope (top 8)) .none kV5 dc5 pm5 an5 cd5 ct5), sl5⟩) (c5 : PySem.W.codeIn K cd5 "_law_lists" = true) (k5 : PySem.W.keepIn K (.ref f5) = true)
    {f6 : Addr} {od6 an6 : Option Addr} {sl6 : Array (Option Value)} {oc6 kV6 dc6 pm6 cd6 ct6 : Value} (a6 : PySem.W.nsIn K mainGlobals "_law_same" = some (some (.ref f6)))
    (l6 : K.lookup f6 = some ⟨oc6, od6, .func (PySem.W.fnOf "_law_same" "_law_same" (defArgs (top 9)) (defBody (top 9)) (defScope (top 9)) .none kV6 dc6 pm6 an6 cd6 ct6), sl6⟩) (c6 : PySem.W.codeIn K cd6 "_law_same" = true) (k6 : PySem.W.keepIn K (.ref f6) = true)
    {f7 : Addr} {od7 an7 : Option Addr} {sl7 : Array (Option Value)} {oc7 kV7 dc7 pm7 cd7 ct7 : Value} (a7 : PySem.W.nsIn K mainGlobals "_law_box" = some (some (.ref f7)))
    (l7 : K.lookup f7 = some ⟨oc7, od7, .func (PySem.W.fnOf "_law_box" "_law_box" (defArgs (top 10)) (defBody (top 10)) (defScope (top 10)) .none kV7 dc7 pm7 an7 cd7 ct7), sl7⟩) (c7 : PySem.W.codeIn K cd7 "_law_box" = true) (k7 : PySem.W.keepIn K (.ref f7) = true)
    {f8 : Addr} {od8 an8 : Option Addr} {sl8 : Array (Option Value)} {oc8 kV8 dc8 pm8 cd8 ct8 : Value} (a8 : PySem.W.nsIn K mainGlobals "_law_pairs" = some (some (.ref f8)))
    (l8 : K.lookup f8 = some ⟨oc8, od8, .func (PySem.W.fnOf "_law_pairs" "_law_pairs" (defArgs (top 11)) (defBody (top 11)) (defScope (top 11)) .none kV8 dc8 pm8 an8 cd8 ct8), sl8⟩) (c8 : PySem.W.codeIn K cd8 "_law_pairs" = true) (k8 : PySem.W.keepIn K (.ref f8) = true)
    {f9 : Addr} {od9 an9 : Option Addr} {sl9 : Array (Option Value)} {oc9 kV9 dc9 pm9 cd9 ct9 : Value} (a9 : PySem.W.nsIn K mainGlobals "_law_shut" = some (some (.ref f9)))
    (l9 : K.lookup f9 = some ⟨oc9, od9, .func (PySem.W.fnOf "_law_shut" "_law_shut" (defArgs (top 12)) (defBody (top 12)) (defScope (top 12)) .none kV9 dc9 pm9 an9 cd9 ct9), sl9⟩) (c9 : PySem.W.codeIn K cd9 "_law_shut" = true) (k9 : PySem.W.keepIn K (.ref f9) = true)
    {f10 : Addr} {od10 an10 : Option Addr} {sl10 : Array (Option Value)} {oc10 kV10 dc10 pm10 cd10 ct10 : Value} (a10 : PySem.W.nsIn K mainGlobals "_law_right" = some (some (.ref f10)))
    (l10 : K.lookup f10 = some ⟨oc10, od10, .func (PySem.W.fnOf "_law_right" "_law_right" (defArgs (top 13)) (defBody (top 13)) (defScope (top 13)) .none kV10 dc10 pm10 an10 cd10 ct10), sl10⟩) (c10 : PySem.W.codeIn K cd10 "_law_right" = true) (k10 : PySem.W.keepIn K (.ref f10) = true)
    {f11 : Addr} {od11 an11 : Option Addr} {sl11 : Array (Option Value)} {oc11 kV11 dc11 pm11 cd11 ct11 : Value} (a11 : PySem.W.nsIn K mainGlobals "law" = some (some (.ref f11)))
    (l11 : K.lookup f11 = some ⟨oc11, od11, .func (PySem.W.fnOf "law" "law" (defArgs (top 14)) (defBody (top 14)) (defScope (top 14)) .none kV11 dc11 pm11 an11 cd11 ct11), sl11⟩) (c11 : PySem.W.codeIn K cd11 "law" = true) (k11 : PySem.W.keepIn K (.ref f11) = true)
    (z0 : PySem.W.nsIn K mainGlobals "abs" = some none)
    (z1 : PySem.W.nsIn K mainGlobals "all" = some none)
    (z2 : PySem.W.nsIn K mainGlobals "bool" = some none)
    (z3 : PySem.W.nsIn K mainGlobals "enumerate" = some none)
    (z4 : PySem.W.nsIn K mainGlobals "int" = some none)
    (z5 : PySem.W.nsIn K mainGlobals "isinstance" = some none)
    (z6 : PySem.W.nsIn K mainGlobals "len" = some none)
    (z7 : PySem.W.nsIn K mainGlobals "list" = some none)
    (z8 : PySem.W.nsIn K mainGlobals "min" = some none)
    (z9 : PySem.W.nsIn K mainGlobals "range" = some none)
    (z10 : PySem.W.nsIn K mainGlobals "repr" = some none)
    (z11 : PySem.W.nsIn K mainGlobals "str" = some none)
    (z12 : PySem.W.nsIn K mainGlobals "tuple" = some none)
    (z13 : PySem.W.nsIn K mainGlobals "zip" = some none)
    {P : Program} {w : World} {fa : Addr} (hfa : mg "law" = some (.ref fa)) (n : Nat) : ∃ fd : FuncData, (∀ (s : Shared) (u : Value), BindsTo s fd ⟨[u], []⟩ [("_law_script", u)]) ∧ ∀ base : Heap, FnG P w K mg base n fa fd ["_law_script"] (sems n).law := by
  have e := hfa.symm.trans (PySem.W.mg_of X G a11)
  cases e
  have F0 := fun_mk (st := top 1) l0 c0 k0
  have F1 := fun_mk (st := top 3) l1 c1 k1
  have F2 := fun_mk (st := top 4) l2 c2 k2
  have F3 := fun_mk (st := top 6) l3 c3 k3
  have F4 := fun_mk (st := top 7) l4 c4 k4
  have F5 := fun_mk (st := top 8) l5 c5 k5
  have F6 := fun_mk (st := top 9) l6 c6 k6
  have F7 := fun_mk (st := top 10) l7 c7 k7
  have F8 := fun_mk (st := top 11) l8 c8 k8
  have F9 := fun_mk (st := top 12) l9 c9 k9
  have F10 := fun_mk (st := top 13) l10 c10 k10
  have F11 := fun_mk (st := top 14) l11 c11 k11
  have T : ∃ T : Tab K mg, T.f_law = f11 ∧ T.d_law = PySem.W.fnOf "law" "law" (defArgs (top 14)) (defBody (top 14)) (defScope (top 14)) .none kV11 dc11 pm11 an11 cd11 ct11 := ⟨⟨f0, _, F0, (F0.binds (ps := ["value"]) fun _ _ _ _ _ _ us hl => match us, hl with | [_], _ => rfl), PySem.W.mg_of X G a0, f1, _, F1, (F1.binds (ps := ["history"]) fun _ _ _ _ _ _ us hl => match us, hl with | [_], _ => rfl), PySem.W.mg_of X G a1, fun s u _ => .of_eq rfl, f2, _, F2, (F2.binds (ps := ["history"]) fun _ _ _ _ _ _ us hl => match us, hl with | [_], _ => rfl), PySem.W.mg_of X G a2, fun s u _ => .of_eq rfl, f3, _, F3, (F3.binds (ps := ["_law_box_here", "_law_below"]) fun _ _ _ _ _ _ us hl => match us, hl with | [_, _], _ => rfl), PySem.W.mg_of X G a3, f4, _, F4, (F4.binds (ps := ["_law_box_here", "_law_matter"]) fun _ _ _ _ _ _ us hl => match us, hl with | [_, _], _ => rfl), PySem.W.mg_of X G a4, f5, _, F5, (F5.binds (ps := ["_law_matter"]) fun _ _ _ _ _ _ us hl => match us, hl with | [_], _ => rfl), PySem.W.mg_of X G a5, f6, _, F6, (F6.binds (ps := ["_law_found", "_law_due"]) fun _ _ _ _ _ _ us hl => match us, hl with | [_, _], _ => rfl), PySem.W.mg_of X G a6, f7, _, F7, (F7.binds (ps := ["_law_script", "_law_k"]) fun _ _ _ _ _ _ us hl => match us, hl with | [_, _], _ => rfl), PySem.W.mg_of X G a7, f8, _, F8, (F8.binds (ps := ["_law_box_here", "_law_many_so"]) fun _ _ _ _ _ _ us hl => match us, hl with | [_, _], _ => rfl), PySem.W.mg_of X G a8, f9, _, F9, (F9.binds (ps := ["_law_pairs_so"]) fun _ _ _ _ _ _ us hl => match us, hl with | [_], _ => rfl), PySem.W.mg_of X G a9, f10, _, F10, (F10.binds (ps := ["_law_box_here"]) fun _ _ _ _ _ _ us hl => match us, hl with | [_], _ => rfl), PySem.W.mg_of X G a10, f11, _, F11, (F11.binds (ps := ["_law_script"]) fun _ _ _ _ _ _ us hl => match us, hl with | [_], _ => rfl), PySem.W.mg_of X G a11, PySem.W.mg_none_of X G z0, PySem.W.mg_none_of X G z1, PySem.W.mg_none_of X G z2, PySem.W.mg_none_of X G z3, PySem.W.mg_none_of X G z4, PySem.W.mg_none_of X G z5, PySem.W.mg_none_of X G z6, PySem.W.mg_none_of X G z7, PySem.W.mg_none_of X G z8, PySem.W.mg_none_of X G z9, PySem.W.mg_none_of X G z10, PySem.W.mg_none_of X G z11, PySem.W.mg_none_of X G z12, PySem.W.mg_none_of X G z13⟩, rfl, rfl⟩
  obtain ⟨T, e1, e2⟩ := T
  refine ⟨PySem.W.fnOf "law" "law" (defArgs (top 14)) (defBody (top 14)) (defScope (top 14)) .none kV11 dc11 pm11 an11 cd11 ct11, fun s u => .of_eq rfl, fun base => ?_⟩
  have g := (good (P := P) (w := w) (base := base) (T := T) n).law
  rw [e1, e2] at g
  exact g
end K06
open PySem PySem.W PyProof.Rows
set_option maxRecDepth 100000 in
set_option maxHeartbeats 0 in
theorem PySem.Challenge.cw_endonce_k06_closed_histories_holds : PySem.Challenge.rw_endonce_k06_closed_histories.Holds := by
  w_on; o_law; k_head; (case hw => w_witness2)
  k_fill
  refine DL.walkG (l := PySem.Challenge.rw_endonce_k06_closed_histories) (n := 63) (k := K06.depth) (x := "_law_script") (F := (K06.sems K06.depth).law) rfl (by decide) rfl ⟨⟨rfl, by decide, by decide⟩, rfl⟩ (fun w h Y => PySem.W.kIn_of Y) ?F K06.plain
  case F =>
    intro w mg fa h KX G hmg
    refine' K06.tab KX G ?a0 ?l0 ?c0 ?k0 ?a1 ?l1 ?c1 ?k1 ?a2 ?l2 ?c2 ?k2 ?a3 ?l3 ?c3 ?k3 ?a4 ?l4 ?c4 ?k4 ?a5 ?l5 ?c5 ?k5 ?a6 ?l6 ?c6 ?k6 ?a7 ?l7 ?c7 ?k7 ?a8 ?l8 ?c8 ?k8 ?a9 ?l9 ?c9 ?k9 ?a10 ?l10 ?c10 ?k10 ?a11 ?l11 ?c11 ?k11 ?z0 ?z1 ?z2 ?z3 ?z4 ?z5 ?z6 ?z7 ?z8 ?z9 ?z10 ?z11 ?z12 ?z13 hmg K06.depth
    (case a0 => k_is); (case l0 => k_is); (case c0 => k_is); (case k0 => k_is)
    (case a1 => k_is); (case l1 => k_is); (case c1 => k_is); (case k1 => k_is)
    (case a2 => k_is); (case l2 => k_is); (case c2 => k_is); (case k2 => k_is)
    (case a3 => k_is); (case l3 => k_is); (case c3 => k_is); (case k3 => k_is)
    (case a4 => k_is); (case l4 => k_is); (case c4 => k_is); (case k4 => k_is)
    (case a5 => k_is); (case l5 => k_is); (case c5 => k_is); (case k5 => k_is)
    (case a6 => k_is); (case l6 => k_is); (case c6 => k_is); (case k6 => k_is)
    (case a7 => k_is); (case l7 => k_is); (case c7 => k_is); (case k7 => k_is)
    (case a8 => k_is); (case l8 => k_is); (case c8 => k_is); (case k8 => k_is)
    (case a9 => k_is); (case l9 => k_is); (case c9 => k_is); (case k9 => k_is)
    (case a10 => k_is); (case l10 => k_is); (case c10 => k_is); (case k10 => k_is)
    (case a11 => k_is); (case l11 => k_is); (case c11 => k_is); (case k11 => k_is)
    (case z0 => k_is); (case z1 => k_is); (case z2 => k_is); (case z3 => k_is); (case z4 => k_is); (case z5 => k_is); (case z6 => k_is); (case z7 => k_is); (case z8 => k_is); (case z9 => k_is); (case z10 => k_is); (case z11 => k_is); (case z12 => k_is); (case z13 => k_is)
