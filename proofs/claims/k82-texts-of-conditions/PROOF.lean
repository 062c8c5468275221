import PyProof.Rows.All
import Wide.All
import OpenK.AllK
import Wide.FinOn
import KE.KExcInit
import HandS.ExcInit
import HandS.ExcField
import HandS.ExcIs
import HandS.MakeKw
import HandS.MakeKwOnly
import HandS.ForMost
import HandS.ForExc
import HandS.CallSlots
import HandS.Lambda
import HandS.Wide
import HandS.TupAny
import HandS.Style
import HandS.IsInst
import HandS.Walk
import HandS.TupLen
import KE.GoesMore
import HandS.Property
import HandS.Defaults
import HandS.Star
import KE.KOpsOwn
import KE.GoesEnum
import HandS.HeadNt
import HandS.HeadWalk
import HandS.Head2
import HandS.EndBits
import HandS.TryMany
import PyProof.ReprRoads
import HandS.TupMul
import HandS.Text
import HandS.Codes
import HandS.SetKeys
import HandS.SortKw
import HandS.DictComp
import KE.IntTextLaws
import HandS.ClsMeth
import HandS.FStr
import HandS.FStrTup
import HandS.RaiseMore
import HandS.EndTab
import PyProof.RulesMatch
import HandS.MethStar
import HandS.Deep
import HandS.SortInts
import HandS.More
import KE.GoesEnumKw
import KE.SortData
import PyProof.Rows.MatchSeqLen
import HandS.Strs
import KE.KParD
import HandS.Zip
import HandS.OwnEq
import PySem.Challenge.RW_farmisses_k82_texts_of_conditions
set_option Elab.async false
set_option linter.all false
set_option maxRecDepth 100000
set_option maxHeartbeats 4000000
set_option Elab.async false
set_option linter.all false
set_option maxRecDepth 100000
set_option maxHeartbeats 4000000
namespace L2
open PySem PySem.Spec PyProof.Rows
structure OexG (K : PySem.W.Frag) (C : Addr) (B newId initId : String) (bmB : List Value) : Prop where
  cls : ∃ nm q N bs bm sn sub ab col dd k0 k1 k2 k3 k5, K.lookup C = some (excClassObj nm q C N bs bm true sn sub ab col dd k0 k1 k2 k3 k5 newId) ∧ PySem.W.excTail bmB bm = true
  sa : PySem.W.findIn K (.ref C) "__setattr__" = some (some (.builtin "object.__setattr__"))
  kC : PySem.W.keepIn K (.ref C) = true
  FB : ExcBaseFacts B newId initId bmB
  SB : StoreFacts B bmB "object.__setattr__" "object"
/-- an own exception class, over whatever base -/
def OexA (K : PySem.W.Frag) (C : Addr) : Prop := ∃ (B newId initId : String) (bmB : List Value), OexG K C B newId initId bmB
/-- the object of a kept exception -/
abbrev keO (C dx t : Addr) : Obj := { cls := .ref C, dict := some dx, data := .fields #[.ref t, .none, .none, .none, .bool false, .none] }
/-- a kept exception: nothing of it changes -/
def kpt (C dx t : Addr) : HO := .frz (keO C dx t) (.ext fun _ => True)
def spXG (K : PySem.W.Frag) (f : Str) : Sp := fun vs H Q _ => ∃ (a C : Addr) (v : V), vs = [.ref a, v] ∧ OexA K C ∧ PySem.W.findIn K (.ref C) f = some none ∧ H a = some (exo a C none) ∧
  ∀ dx, H dx = none → dx ≠ a → Q .non (upd (upd H dx (exd dx [(f, v)])) a (exo a C (some dx)))
end L2
set_option Elab.async false
set_option linter.all false
set_option maxRecDepth 100000
set_option maxHeartbeats 4000000
namespace L2.Mi
open PySem

inductive D where
  | non | bl (b : Bool) | int (i : Int) | str (x : List Nat) | tup (xs : List D) | ref (a : Nat) | ty (n : String)
  /-- a list, a dict that nobody changes; a tuple of the written part -/
  | lv (xs : List D) | dv (t : Bool) (kvs : List (D × D)) | kt (xs : List D)
  /-- a class of the program -/
  | cl (c : Nat)
  /-- a list that stood there before: the script, a table of the top -/
  | fl (xs : List D)
  /-- a def of the program -/
  | fn (i : Nat)
  /-- a kept exception: its class, its fields' numbers, their values -/
  | ex (c : Nat) (ns : List Nat) (ds : List D)
  /-- a class of exceptions -/
  | cx (c : Nat)
  /-- a lambda of the law, without parameters and captured names -/
  | lm (k : Nat)

inductive Ob where
  | lst (xs : List D)
  | dic (t : Bool) (kvs : List (D × D))
  | ins (c : Nat) (fs : List (Nat × D))
  | lck (o : Ob)

structure Store where
  objs : List Ob
namespace Store
def size (S : Store) : Nat := S.objs.length
def get (S : Store) (i : Nat) : Option Ob := S.objs[i]?
def set (S : Store) (i : Nat) (o : Ob) : Store := ⟨S.objs.set i o⟩
def push (S : Store) (o : Ob) : Store := ⟨S.objs ++ [o]⟩
theorem size_set (S : Store) (i : Nat) (o : Ob) : (S.set i o).size = S.size := by simp [size, set]
theorem size_push (S : Store) (o : Ob) : (S.push o).size = S.size + 1 := by simp [size, push]
theorem get_lt {S : Store} {i : Nat} {o : Ob} (h : S.get i = some o) : i < S.size := (List.getElem?_eq_some_iff.mp h).1
theorem get_none {S : Store} {i : Nat} (h : S.size ≤ i) : S.get i = none := by
  unfold get size at *
  exact List.getElem?_eq_none_iff.mpr h
theorem get_set_same {S : Store} {i : Nat} {o : Ob} (h : i < S.size) : (S.set i o).get i = some o := by
  unfold get set size at *
  simp [h]
theorem get_set_ne {S : Store} {i j : Nat} {o : Ob} (h : i ≠ j) : (S.set i o).get j = S.get j := by
  unfold get set
  simp [List.getElem?_set_ne h]
theorem get_push_same {S : Store} {o : Ob} : (S.push o).get S.size = some o := by
  unfold get push size
  simp
theorem get_push_lt {S : Store} {i : Nat} {o : Ob} (h : i < S.size) : (S.push o).get i = S.get i := by
  unfold get push size at *
  simp [List.getElem?_append_left h]
theorem get_push_some {S : Store} {i : Nat} {o u : Ob} (h : S.get i = some u) : (S.push o).get i = some u := by
  rw [get_push_lt (get_lt h)]; exact h
theorem get_push_ne {S : Store} {i : Nat} {o : Ob} (h : i ≠ S.size) : (S.push o).get i = S.get i := by
  by_cases hl : i < S.size
  · exact get_push_lt hl
  · rw [get_none (S := S) (by omega), get_none (by rw [size_push]; omega)]
end Store

/-- an exception in flight: its class, its fields -/
structure Xn where
  c : Nat
  fs : List (Nat × D)

inductive Res (α : Type) where
  | ok (a : α) (S : Store)
  | exc (x : Xn) (S : Store)
  | bad
abbrev En := List (Option D)
inductive RS where
  | nx (σ : En) (S : Store)
  | rt (d : D) (S : Store)
  | bk (σ : En) (S : Store)
  | ct (σ : En) (S : Store)
  | exc (x : Xn) (σ : En) (S : Store)
  | bad
def Res.bind {α β : Type} (r : Res α) (f : α → Store → Res β) : Res β :=
  match r with
  | .ok a S => f a S
  | .exc x S => .exc x S
  | .bad => .bad
theorem Res.bind_ok {α β : Type} {a : α} {S : Store} {f : α → Store → Res β} : (Res.ok a S).bind f = f a S := rfl
theorem Res.bind_exc {α β : Type} {x : Xn} {S : Store} {f : α → Store → Res β} : (Res.exc x S : Res α).bind f = .exc x S := rfl
theorem Res.bind_bad {α β : Type} {f : α → Store → Res β} : (Res.bad : Res α).bind f = .bad := rfl
abbrev ME := En → Store → Res D
abbrev MA := En → Store → Res (List D)
abbrev MT := En → Store → Res Bool
abbrev MS := En → Store → RS

/-- what a class of the program must have -/
structure CI (K : PySem.W.Frag) (C : Addr) : Prop where
  cl : Cls K C
  ha : PySem.W.findIn K (.ref C) "__class__" = some (some (.builtin "object.__class__"))
  hn : PySem.W.specialIn K (.builtin "object.__class__") "__get__" = some (some (.builtin "getset_descriptor.__get__"))
  htk : PySem.W.takesIn K (.builtin "object.__class__") = some true
  hm : PySem.W.mroIn K C (.type "object") = some true
/-- a type: a built-in one, a class of the program -/
inductive Tag where
  | b (n : String) | o (c : Nat)
  deriving DecidableEq
def tagVal (cls : Nat → Option Addr) : Tag → Option Value
  | .b n => some (.type n)
  | .o c => (cls c).map Value.ref
/-- the program's tables: the written part, the classes by number, the fields' names by number, what isinstance says, the exceptions' classes -/
structure Gx where
  K : PySem.W.Frag
  cls : Nat → Option Addr
  fld : Nat → Str
  inj : ∀ i j, fld i = fld j → i = j
  clsv : Nat → Option Value
  ci : ∀ c C, cls c = some C → CI K C
  isi : Tag → Tag → Option Bool
  isi_ok : ∀ t u b tv uv, isi t u = some b → tagVal cls t = some tv → tagVal cls u = some uv → PySem.W.kitOne K tv uv = some b
  /-- the tables of code objects that grow, and the name that their code objects bear -/
  tabs : List (Addr × Str)
  /-- the defs by number -/
  fns : Nat → Option Addr
  /-- the law's lambdas: their name, parameters, body, scope -/
  lams : Nat → Option (Str × Arguments × Expr × Scope)

def keyD : D → Option Key
  | .int i => some (.inl i)
  | .str x => some (.inr ⟨x.toArray⟩)
  | _ => none
def keysD : List D → Option (List Key)
  | [] => some []
  | d :: ds => match keyD d, keysD ds with
    | some k, some ks => some (k :: ks)
    | _, _ => none
def keyT : D → Option (List Key)
  | .tup ds => keysD ds
  | _ => none

/-- where the store's things stand, and what is hidden (a comprehension's list while it grows) -/
structure Wd where
  v : List Addr
  h : List Addr
def Wd.no (ρ : Wd) (a : Addr) : Prop := a ∉ ρ.v ∧ a ∉ ρ.h
def Wd.push (ρ : Wd) (a : Addr) : Wd := ⟨ρ.v ++ [a], ρ.h⟩

/-- a list that nothing changes -/
def FlAt (K : PySem.W.Frag) (H : Hp) (a : Addr) (xs : List V) : Prop := (∃ o, H a = some (.frz o (.lst xs))) ∨ SqL K (fun _ => none) a xs
section
variable (G : Gx) (ρ : Wd) (H : Hp)
mutual
inductive RV : D → V → Prop
  | non : RV .non .non
  | bl (b : Bool) : RV (.bl b) (.bl b)
  | int (i : Int) : RV (.int i) (.int i)
  | str (x : List Nat) : RV (.str x) (.str ⟨x.toArray⟩)
  | ty (n : String) : RV (.ty n) (.ty n)
  | cl {c : Nat} {C : Addr} : G.cls c = some C → RV (.cl c) (.ref C)
  | ref {i : Nat} {a : Addr} : ρ.v[i]? = some a → RV (.ref i) (.ref a)
  | fn {i : Nat} {a : Addr} : G.fns i = some a → RV (.fn i) (.ref a)
  | tup {ds : List D} {a : Addr} {xs : List V} : H a = some (.tup xs) → RVs ds xs → RV (.tup ds) (.ref a)
  | kt {ds : List D} {a : Addr} {xs : List V} : SqT G.K (fun _ => none) a xs → RVs ds xs → RV (.kt ds) (.ref a)
  | lv {ds : List D} {a : Addr} {xs : List V} : ρ.no a → H a = some (.lst xs) → RVs ds xs → RV (.lv ds) (.ref a)
  | fl {ds : List D} {a : Addr} {xs : List V} : FlAt G.K H a xs → RVs ds xs → RV (.fl ds) (.ref a)
  | cx {c : Nat} {C : Addr} : G.clsv c = some (.ref C) → RV (.cx c) (.ref C)
  | ex {c : Nat} {C a dx t0 : Addr} {ns : List Nat} {ds : List D} {xs : List V} : G.clsv c = some (.ref C) → H a = some (kpt C dx t0) → H dx = some (.xd ((ns.map G.fld).zip xs)) → RVs ds xs → RV (.ex c ns ds) (.ref a)
  | lm {k : Nat} {f c' : Addr} {q : Str} {ps : Arguments} {bd : Expr} {sc : Scope} {pm ctv : Value} : G.lams k = some (q, ps, bd, sc) → H f = some (.frz (PySem.W.kla_obj "<lambda>" q ps bd sc [] pm c' ctv) (.ext fun _ => True)) → H c' = some (LamX.CodeO c' q) → RV (.lm k) (.ref f)
  | dvK {kvs : List (D × D)} {a : Addr} {kus : List (Key × V)} : ρ.no a → Rd H a (.dK kus) → RKs kvs kus → RV (.dv false kvs) (.ref a)
  | dvT {kvs : List (D × D)} {a : Addr} {kus : List (List Key × V)} : ρ.no a → Rd H a (.dT kus) → RTs kvs kus → RV (.dv true kvs) (.ref a)
inductive RVs : List D → List V → Prop
  | nil : RVs [] []
  | cons {d : D} {ds : List D} {v : V} {vs : List V} : RV d v → RVs ds vs → RVs (d :: ds) (v :: vs)
inductive RKs : List (D × D) → List (Key × V) → Prop
  | nil : RKs [] []
  | cons {d e : D} {k : Key} {v : V} {kvs : List (D × D)} {kus : List (Key × V)} : keyD d = some k → RV e v → RKs kvs kus → RKs ((d, e) :: kvs) ((k, v) :: kus)
inductive RTs : List (D × D) → List (List Key × V) → Prop
  | nil : RTs [] []
  | cons {d e : D} {k : List Key} {v : V} {kvs : List (D × D)} {kus : List (List Key × V)} : keyT d = some k → RV e v → RTs kvs kus → RTs ((d, e) :: kvs) ((k, v) :: kus)
end
end

def IsT : HO → Prop
  | .tup _ => True
  | .frz _ (.lst _) => True
  | .frz _ (.ext _) => True
  | .xd _ => True
  | .ext _ => True
  | _ => False
/-- tuples stay, frozen lists too -/
def TK (G : Gx) (H H' : Hp) : Prop := ∀ a u, IsT u → H a = some u → H' a = some u
theorem FlAt.move {G : Gx} {H H' : Hp} {a : Addr} {xs : List V} (t : TK G H H') (h : FlAt G.K H a xs) : FlAt G.K H' a xs := h.elim (fun ⟨o, h⟩ => .inl ⟨o, t a _ trivial h⟩) .inr
theorem FlAt.sq {K : PySem.W.Frag} {H : Hp} {a : Addr} {xs : List V} (h : FlAt K H a xs) : SqL K H a xs := by
  rcases h with ⟨o, h⟩ | (h | ⟨o, h⟩) | h
  · exact .inl (.inr ⟨o, h⟩)
  · cases h
  · cases h
  · exact .inr h
/-- no table of code objects -/
def NTb : HO → Prop
  | .tbl _ => False
  | _ => True
/-- something stands there, and no table -/
def SmO : Option HO → Prop
  | some u => NTb u
  | none => False
theorem SmO.ne {o : Option HO} (h : SmO o) : o ≠ none := by
  rintro rfl
  exact h
/-- a table of code objects, a code object -/
def IsE : HO → Prop
  | .tbl _ => True
  | .ext _ => True
  | _ => False
theorem tabs_move {T : List (Addr × Str)} {H H' : Hp} (t : LamX.Tabs T H) (k : ∀ a u, IsE u → H a = some u → H' a = some u) : LamX.Tabs T H' := by
  intro p hp
  obtain ⟨ps, h1, h2, h3⟩ := t p hp
  refine ⟨ps, k _ _ trivial h1, h2, fun pos cv hc => ?_⟩
  obtain ⟨c, e1, e2⟩ := h3 pos cv hc
  refine ⟨c, e1, k _ _ ?_ e2⟩
  unfold LamX.CodeO
  exact trivial
def IsDk : HO → Prop
  | .dK _ => True
  | .dT _ => True
  | _ => False
structure Le (G : Gx) (ρ : Wd) (H : Hp) (ρ' : Wd) (H' : Hp) : Prop where
  pre : ρ.v <+: ρ'.v
  hid : ρ'.h = ρ.h
  tk : TK G H H'
  kl : ∀ a xs, ρ.no a → H a = some (.lst xs) → H' a = some (.lst xs)
  kp : ∀ a u, ρ.no a → IsDk u → Rd H a u → Rd H' a u
  ni : ∀ a, ρ.no a → SmO (H a) → ρ'.no a ∧ SmO (H' a)
  kh : ∀ a, a ∈ ρ.h → H a ≠ none → H' a = H a
  /-- what is locked stays so -/
  kz : ∀ a o u, H a = some (.frz o u) → H' a = some (.frz o u)
theorem rd_some {H : Hp} {a : Addr} {u : HO} (h : Rd H a u) : H a ≠ none := by
  rcases h with h | ⟨o, h⟩ <;> (rw [h]; simp)
theorem rd_sm {H : Hp} {a : Addr} {u : HO} (h : Rd H a u) (k : IsDk u) : SmO (H a) := by
  rcases h with h | ⟨o, h⟩
  · rw [h]
    cases u <;> first | exact k.elim | exact trivial
  · rw [h]
    exact trivial
theorem Le.refl {G : Gx} {ρ : Wd} {H : Hp} : Le G ρ H ρ H := ⟨List.prefix_refl _, rfl, fun _ _ _ h => h, fun _ _ _ h => h, fun _ _ _ _ h => h, fun _ h e => ⟨h, e⟩, fun _ _ _ => rfl, fun _ _ _ h => h⟩
theorem Le.trans {G : Gx} {ρ ρ' ρ'' : Wd} {H H' H'' : Hp} (a : Le G ρ H ρ' H') (b : Le G ρ' H' ρ'' H'') : Le G ρ H ρ'' H'' := by
  refine ⟨a.pre.trans b.pre, b.hid.trans a.hid, fun c xs t h => b.tk c xs t (a.tk c xs t h), fun c xs hc h => b.kl c xs (a.ni c hc (by rw [h]; trivial)).1 (a.kl c xs hc h), fun c u hc n h => ?_, fun c hc h => ?_, fun c hc h => ?_, fun c o u h => b.kz c o u (a.kz c o u h)⟩
  · exact b.kp c u (a.ni c hc (rd_sm h n)).1 n (a.kp c u hc n h)
  · obtain ⟨h1, h2⟩ := a.ni c hc h
    exact b.ni c h1 h2
  · have e := a.kh c hc h
    rw [b.kh c (by rw [a.hid]; exact hc) (by rw [e]; exact h), e]
theorem pre_get {ρ ρ' : List Addr} (h : ρ <+: ρ') {i : Nat} {a : Addr} (e : ρ[i]? = some a) : ρ'[i]? = some a := by
  obtain ⟨t, rfl⟩ := h
  obtain ⟨hl, _⟩ := List.getElem?_eq_some_iff.mp e
  rw [List.getElem?_append_left hl]
  exact e
/-- values move from one world to another -/
structure Mv (G : Gx) (ρ : Wd) (H : Hp) (ρ' : Wd) (H' : Hp) : Prop where
  at_ : ∀ (i : Nat) a, ρ.v[i]? = some a → ρ'.v[i]? = some a
  tk : TK G H H'
  kl : ∀ a xs, ρ.no a → H a = some (.lst xs) → ρ'.no a ∧ H' a = some (.lst xs)
  kp : ∀ a u, ρ.no a → IsDk u → Rd H a u → ρ'.no a ∧ Rd H' a u
mutual
theorem RV.move {G : Gx} {ρ ρ' : Wd} {H H' : Hp} (l : Mv G ρ H ρ' H') : ∀ {d : D} {v : V}, RV G ρ H d v → RV G ρ' H' d v
  | _, _, .non => .non
  | _, _, .bl b => .bl b
  | _, _, .int i => .int i
  | _, _, .str x => .str x
  | _, _, .ty n => .ty n
  | _, _, .cl h => .cl h
  | _, _, .fn h => .fn h
  | _, _, .ref e => .ref (l.at_ _ _ e)
  | _, _, .tup h r => .tup (l.tk _ _ trivial h) (RVs.move l r)
  | _, _, .fl h r => .fl (h.move l.tk) (RVs.move l r)
  | _, _, .kt h r => .kt h (RVs.move l r)
  | _, _, .cx e => .cx e
  | _, _, .lm e h k => .lm e (l.tk _ _ trivial h) (l.tk _ _ (by unfold LamX.CodeO; exact trivial) k)
  | _, _, .ex e h k r => .ex e (l.tk _ _ trivial h) (l.tk _ _ trivial k) (RVs.move l r)
  | _, _, .lv n h r => .lv (l.kl _ _ n h).1 (l.kl _ _ n h).2 (RVs.move l r)
  | _, _, .dvK n h r => .dvK (l.kp _ (.dK _) n trivial h).1 (l.kp _ (.dK _) n trivial h).2 (RKs.move l r)
  | _, _, .dvT n h r => .dvT (l.kp _ (.dT _) n trivial h).1 (l.kp _ (.dT _) n trivial h).2 (RTs.move l r)
theorem RVs.move {G : Gx} {ρ ρ' : Wd} {H H' : Hp} (l : Mv G ρ H ρ' H') : ∀ {ds : List D} {vs : List V}, RVs G ρ H ds vs → RVs G ρ' H' ds vs
  | _, _, .nil => .nil
  | _, _, .cons h t => .cons (RV.move l h) (RVs.move l t)
theorem RKs.move {G : Gx} {ρ ρ' : Wd} {H H' : Hp} (l : Mv G ρ H ρ' H') : ∀ {ds : List (D × D)} {vs : List (Key × V)}, RKs G ρ H ds vs → RKs G ρ' H' ds vs
  | _, _, .nil => .nil
  | _, _, .cons k h t => .cons k (RV.move l h) (RKs.move l t)
theorem RTs.move {G : Gx} {ρ ρ' : Wd} {H H' : Hp} (l : Mv G ρ H ρ' H') : ∀ {ds : List (D × D)} {vs : List (List Key × V)}, RTs G ρ H ds vs → RTs G ρ' H' ds vs
  | _, _, .nil => .nil
  | _, _, .cons k h t => .cons k (RV.move l h) (RTs.move l t)
end
theorem Le.mv {G : Gx} {ρ ρ' : Wd} {H H' : Hp} (l : Le G ρ H ρ' H') : Mv G ρ H ρ' H' :=
  ⟨fun _ _ h => pre_get l.pre h, l.tk, fun a xs n h => ⟨(l.ni a n (by rw [h]; trivial)).1, l.kl a xs n h⟩, fun a u n dk h => ⟨(l.ni a n (rd_sm h dk)).1, l.kp a u n dk h⟩⟩
theorem Mv.trans {G : Gx} {ρ ρ' ρ'' : Wd} {H H' H'' : Hp} (a : Mv G ρ H ρ' H') (b : Mv G ρ' H' ρ'' H'') : Mv G ρ H ρ'' H'' :=
  ⟨fun i c h => b.at_ i c (a.at_ i c h), fun c xs t h => b.tk c xs t (a.tk c xs t h), fun c xs n h => b.kl c xs (a.kl c xs n h).1 (a.kl c xs n h).2, fun c u n dk h => b.kp c u (a.kp c u n dk h).1 dk (a.kp c u n dk h).2⟩
theorem RV.mono {G : Gx} {ρ ρ' : Wd} {H H' : Hp} (l : Le G ρ H ρ' H') {d : D} {v : V} (r : RV G ρ H d v) : RV G ρ' H' d v := r.move l.mv
theorem RVs.mono {G : Gx} {ρ ρ' : Wd} {H H' : Hp} (l : Le G ρ H ρ' H') {ds : List D} {vs : List V} (r : RVs G ρ H ds vs) : RVs G ρ' H' ds vs := r.move l.mv
theorem RVs.length {G : Gx} {ρ : Wd} {H : Hp} : ∀ {ds : List D} {vs : List V}, RVs G ρ H ds vs → ds.length = vs.length
  | _, _, .nil => rfl
  | _, _, .cons _ t => by simp [RVs.length t]
theorem RVs.append {G : Gx} {ρ : Wd} {H : Hp} : ∀ {ds es : List D} {vs us : List V}, RVs G ρ H ds vs → RVs G ρ H es us → RVs G ρ H (ds ++ es) (vs ++ us)
  | _, _, _, _, .nil, r => r
  | _, _, _, _, .cons h t, r => .cons h (RVs.append t r)
theorem RVs.get {G : Gx} {ρ : Wd} {H : Hp} : ∀ {ds : List D} {vs : List V} {i : Nat} {d : D}, RVs G ρ H ds vs → ds[i]? = some d → ∃ v, vs[i]? = some v ∧ RV G ρ H d v
  | _, _, _, _, .nil, e => by simp at e
  | _, _, 0, _, .cons h _, e => by simp at e; subst e; exact ⟨_, rfl, h⟩
  | _, _, i + 1, d, .cons _ t, e => by
    obtain ⟨v, h1, h2⟩ := RVs.get (i := i) (d := d) t (by simpa using e)
    exact ⟨v, by simpa using h1, h2⟩
theorem RVs.set {G : Gx} {ρ : Wd} {H : Hp} {d : D} {v : V} (h : RV G ρ H d v) : ∀ {ds : List D} {vs : List V} (i : Nat), RVs G ρ H ds vs → RVs G ρ H (ds.set i d) (vs.set i v)
  | _, _, _, .nil => .nil
  | _, _, 0, .cons _ t => .cons h t
  | _, _, i + 1, .cons q t => .cons q (RVs.set h i t)
section
variable (G : Gx) (ρ : Wd) (H : Hp)
inductive RFs : List (Nat × D) → List (Str × V) → Prop
  | nil : RFs [] []
  | cons {n : Nat} {d : D} {v : V} {fs : List (Nat × D)} {us : List (Str × V)} : RV G ρ H d v → RFs fs us → RFs ((n, d) :: fs) ((G.fld n, v) :: us)
inductive RO : Ob → HO → Prop
  | lst {ds : List D} {xs : List V} : RVs G ρ H ds xs → RO (.lst ds) (.lst xs)
  | dK {kvs : List (D × D)} {kus : List (Key × V)} : RKs G ρ H kvs kus → RO (.dic false kvs) (.dK kus)
  | dT {kvs : List (D × D)} {kus : List (List Key × V)} : RTs G ρ H kvs kus → RO (.dic true kvs) (.dT kus)
  | ins {c : Nat} {C dx : Addr} {fs : List (Nat × D)} {us : List (Str × V)} : G.cls c = some C → RFs G ρ H fs us → RO (.ins c fs) (.ins C dx us)
  | lck {o : Ob} {ob : Obj} {u : HO} : RO o u → RO (.lck o) (.frz ob u)
end
section
variable {G : Gx} {ρ ρ' : Wd} {H H' : Hp}
theorem RFs.move {ρ ρ' : Wd} {H H' : Hp} (l : Mv G ρ H ρ' H') : ∀ {ds : List (Nat × D)} {vs : List (Str × V)}, RFs G ρ H ds vs → RFs G ρ' H' ds vs
  | _, _, .nil => .nil
  | _, _, .cons h t => .cons (h.move l) (RFs.move l t)
theorem RO.move {ρ ρ' : Wd} {H H' : Hp} (l : Mv G ρ H ρ' H') {o : Ob} {u : HO} (r : RO G ρ H o u) : RO G ρ' H' o u := by
  induction r with
  | lst r => exact .lst (r.move l)
  | dK r => exact .dK (r.move l)
  | dT r => exact .dT (r.move l)
  | ins h r => exact .ins h (r.move l)
  | lck _ ih => exact .lck ih
theorem RO.mono (l : Le G ρ H ρ' H') {o : Ob} {u : HO} (r : RO G ρ H o u) : RO G ρ' H' o u := r.move l.mv
theorem RFs.length : ∀ {fs : List (Nat × D)} {us : List (Str × V)}, RFs G ρ H fs us → fs.length = us.length
  | _, _, .nil => rfl
  | _, _, .cons _ t => by simp [RFs.length t]
end

structure Rl (G : Gx) (ρ : Wd) (S : Store) (H : Hp) : Prop where
  len : ρ.v.length = S.size
  nd : ρ.v.Nodup
  hh : ∀ a, a ∈ ρ.h → a ∉ ρ.v ∧ SmO (H a)
  ob : ∀ i o, S.get i = some o → ∃ a u, ρ.v[i]? = some a ∧ H a = some u ∧ RO G ρ H o u
  tb : LamX.Tabs G.tabs H
theorem RO.ntb {G : Gx} {ρ : Wd} {H : Hp} {o : Ob} {u : HO} (r : RO G ρ H o u) : NTb u := by
  cases r <;> exact trivial
/-- slots -/
structure RE (G : Gx) (ρ : Wd) (H : Hp) (σs : En) (σ : St) : Prop where
  len : σs.length = σ.length
  get : ∀ (i : Nat) (d : D), σs[i]? = some (some d) → ∃ v : V, σ[i]? = some (some v) ∧ RV G ρ H d v
/-- an exception: its class, its fields -/
structure RX (G : Gx) (ρ : Wd) (H : Hp) (x : Xn) (cls : Value) (dd : Option Addr) : Prop where
  cls : G.clsv x.c = some cls
  fs : (dd = none ∧ x.fs = []) ∨ ∃ d us, dd = some d ∧ H d = some (.xd us) ∧ RFs G ρ H x.fs us
section
variable {G : Gx} {ρ ρ' : Wd} {H H' : Hp}
theorem RE.move {ρ ρ' : Wd} {H H' : Hp} (l : Mv G ρ H ρ' H') {σs : En} {σ : St} (r : RE G ρ H σs σ) : RE G ρ' H' σs σ := ⟨r.len, fun i d e => let ⟨v, h1, h2⟩ := r.get i d e; ⟨v, h1, h2.move l⟩⟩
theorem RE.mono (l : Le G ρ H ρ' H') {σs : En} {σ : St} (r : RE G ρ H σs σ) : RE G ρ' H' σs σ := ⟨r.len, fun i d e => let ⟨v, h1, h2⟩ := r.get i d e; ⟨v, h1, h2.mono l⟩⟩
theorem RE.set {σs : En} {σ : St} {d : D} {v : V} (r : RE G ρ H σs σ) (i : Nat) (h : RV G ρ H d v) : RE G ρ H (σs.set i (some d)) (σ.set i (some v)) := by
  refine ⟨by simp [r.len], fun j e hj => ?_⟩
  by_cases hij : i = j
  · subst hij
    by_cases hl : i < σs.length
    · rw [List.getElem?_set_self hl] at hj
      cases hj
      exact ⟨v, List.getElem?_set_self (by rw [← r.len]; exact hl), h⟩
    · rw [List.getElem?_eq_none (by simpa using hl)] at hj
      cases hj
  · rw [List.getElem?_set_ne hij] at hj ⊢
    exact r.get j e hj
end

section
variable {α β : Type} (G : Gx)
def PostR (R : Wd → Hp → α → β → Prop) (ρ : Wd) (H : Hp) (r : Res α) (Q : β → Hp → Prop) (E : XK) : Prop :=
  match r with
  | .ok d S' => ∀ ρ' H' v, Le G ρ H ρ' H' → Rl G ρ' S' H' → R ρ' H' d v → Q v H'
  | .exc x S' => ∀ ρ' H' cls dd, Le G ρ H ρ' H' → Rl G ρ' S' H' → RX G ρ' H' x cls dd → E cls dd H'
  | .bad => False
def PostS (ρ : Wd) (H : Hp) (r : RS) (Dn : Ends) (W : WX) : Prop :=
  match r with
  | .nx σs S' => ∀ ρ' H' σ', Le G ρ H ρ' H' → Rl G ρ' S' H' → RE G ρ' H' σs σ' → Dn.nx σ' H'
  | .bk σs S' => ∀ ρ' H' σ', Le G ρ H ρ' H' → Rl G ρ' S' H' → RE G ρ' H' σs σ' → Dn.bk σ' H'
  | .ct σs S' => ∀ ρ' H' σ', Le G ρ H ρ' H' → Rl G ρ' S' H' → RE G ρ' H' σs σ' → Dn.ct σ' H'
  | .rt d S' => ∀ ρ' H' v, Le G ρ H ρ' H' → Rl G ρ' S' H' → RV G ρ' H' d v → Dn.rt v H'
  | .exc x σs S' => ∀ ρ' H' σ' cls dd, Le G ρ H ρ' H' → Rl G ρ' S' H' → RE G ρ' H' σs σ' → RX G ρ' H' x cls dd → W cls dd σ' H'
  | .bad => False
end
abbrev Post (G : Gx) := PostR (α := D) (β := V) G (RV G)
abbrev PostA (G : Gx) := PostR (α := List D) (β := List V) G (RVs G)
abbrev PostT (G : Gx) := PostR (α := Bool) (β := Bool) G (fun _ _ b c => b = c)
section
variable {α β : Type} {G : Gx} {ρ ρ' : Wd} {H H' : Hp}
theorem PostR.le {R : Wd → Hp → α → β → Prop} {r : Res α} {Q : β → Hp → Prop} {E : XK} (p : PostR G R ρ H r Q E) (l : Le G ρ H ρ' H') : PostR G R ρ' H' r Q E := by
  cases r with
  | ok d S => exact fun ρ2 H2 v l2 rl h => p ρ2 H2 v (l.trans l2) rl h
  | exc x S => exact fun ρ2 H2 c dd l2 rl h => p ρ2 H2 c dd (l.trans l2) rl h
  | bad => exact p
theorem PostR.imp {R : Wd → Hp → α → β → Prop} {r : Res α} {Q Q' : β → Hp → Prop} {E E' : XK} (p : PostR G R ρ H r Q E) (h : ∀ v H', Q v H' → Q' v H') (hE : ∀ c d H', E c d H' → E' c d H') : PostR G R ρ H r Q' E' := by
  cases r with
  | ok d S => exact fun ρ2 H2 v l2 rl q => h _ _ (p ρ2 H2 v l2 rl q)
  | exc x S => exact fun ρ2 H2 c dd l2 rl q => hE _ _ _ (p ρ2 H2 c dd l2 rl q)
  | bad => exact p
theorem PostS.le {r : RS} {Dn : Ends} {W : WX} (p : PostS G ρ H r Dn W) (l : Le G ρ H ρ' H') : PostS G ρ' H' r Dn W := by
  cases r with
  | nx σ S => exact fun ρ2 H2 v l2 rl h => p ρ2 H2 v (l.trans l2) rl h
  | bk σ S => exact fun ρ2 H2 v l2 rl h => p ρ2 H2 v (l.trans l2) rl h
  | ct σ S => exact fun ρ2 H2 v l2 rl h => p ρ2 H2 v (l.trans l2) rl h
  | rt d S => exact fun ρ2 H2 v l2 rl h => p ρ2 H2 v (l.trans l2) rl h
  | exc x σ S => exact fun ρ2 H2 σ' c dd l2 rl re h => p ρ2 H2 σ' c dd (l.trans l2) rl re h
  | bad => exact p
/-- THE STEP: what is wanted of the first part, then of the rest -/
theorem PostR.bind {γ δ : Type} {R : Wd → Hp → α → β → Prop} {R' : Wd → Hp → γ → δ → Prop} {r : Res α} {f : α → Store → Res γ} {Q : δ → Hp → Prop} {E : XK} (p : PostR G R' ρ H (r.bind f) Q E)
    {Q1 : β → Hp → Prop} (k : ∀ ρ1 H1 S1 d v, Le G ρ H ρ1 H1 → Rl G ρ1 S1 H1 → R ρ1 H1 d v → PostR G R' ρ1 H1 (f d S1) Q E → Q1 v H1) : PostR G R ρ H r Q1 E := by
  cases r with
  | ok d S =>
    intro ρ1 H1 v l rl h
    exact k ρ1 H1 S d v l rl h (PostR.le (r := f d S) p l)
  | exc x S => exact p
  | bad => exact p
end

section
variable (G : Gx) (W : WX)
def tm (m : ME) : TE := fun σ H Q => ∃ ρ σs S, Rl G ρ S H ∧ RE G ρ H σs σ ∧ Post G ρ H (m σs S) Q (fun c d H' => W c d σ H')
def tma (m : MA) : TA := fun σ H Q => ∃ ρ σs S, Rl G ρ S H ∧ RE G ρ H σs σ ∧ PostA G ρ H (m σs S) Q (fun c d H' => W c d σ H')
def tmt (m : MT) : TT := fun σ H Q => ∃ ρ σs S, Rl G ρ S H ∧ RE G ρ H σs σ ∧ PostT G ρ H (m σs S) Q (fun c d H' => W c d σ H')
def tms (m : MS) : TS := fun Dn σ H => ∃ ρ σs S, Rl G ρ S H ∧ RE G ρ H σs σ ∧ PostS G ρ H (m σs S) Dn W
end
theorem PE.weak {X : Cx} {e : Expr} {t t' : TE} (h : PE X e t) (i : ∀ σ H Q, t' σ H Q → t σ H Q) : PE X e t' := ⟨fun pins s σ H Q I q => h.run pins s σ H Q I (i _ _ _ q)⟩
theorem PT.weak {X : Cx} {e : Expr} {t t' : TT} (h : PT X e t) (i : ∀ σ H Q, t' σ H Q → t σ H Q) : PT X e t' := ⟨fun pins s σ H Q I q => h.run pins s σ H Q I (i _ _ _ q)⟩
theorem PW.weak {X : Cx} {e : Expr} {t t' : TT} (h : PW X e t) (i : ∀ σ H Q, t' σ H Q → t σ H Q) : PW X e t' := ⟨fun w pins s σ H Q I q => h.run w pins s σ H Q I (i _ _ _ q)⟩
theorem PA.weak {X : Cx} {e : List Expr} {t t' : TA} (h : PA X e t) (i : ∀ σ H Q, t' σ H Q → t σ H Q) : PA X e t' := ⟨fun pos pins s σ H Q I q => h.run pos pins s σ H Q I (i _ _ _ q)⟩
theorem PS.weak {X : Cx} {e : Stmt} {t t' : TS} (h : PS X e t) (i : ∀ σ H Q, t' σ H Q → t σ H Q) : PS X e t' := ⟨fun pins s σ H D I q => h.run pins s σ H D I (i _ _ _ q)⟩
theorem PSs.weak {X : Cx} {e : List Stmt} {t t' : TS} (h : PSs X e t) (i : ∀ σ H Q, t' σ H Q → t σ H Q) : PSs X e t' := ⟨fun pins s σ H D I q => h.run pins s σ H D I (i _ _ _ q)⟩

section
variable {G : Gx} {ρ : Wd} {S : Store} {H : Hp}
theorem tk_new {p : Addr} {o : HO} (hp : H p = none) : TK G H (L2.upd H p o) := fun _ _ _ h => by rw [upd_ne (ne_of_none h hp)]; exact h
/-- the thing at p is no tuple -/
def NoT : HO → Prop
  | .tup _ => False
  | .frz _ _ => False
  | .xd _ => False
  | .tbl _ => False
  | .ext _ => False
  | _ => True
theorem NoT.noE {u : HO} (n : NoT u) (t : IsE u) : False := by
  cases u with
  | _ => first | exact n | exact t
theorem tabs_new {T : List (Addr × Str)} {H : Hp} {p : Addr} {o : HO} (t : LamX.Tabs T H) (hp : H p = none) : LamX.Tabs T (L2.upd H p o) :=
  tabs_move t fun a u _ e => by rw [upd_ne (ne_of_none e hp)]; exact e
theorem tabs_upd {T : List (Addr × Str)} {H : Hp} {p : Addr} {u o : HO} (t : LamX.Tabs T H) (hp : H p = some u) (nu : ¬ IsE u) : LamX.Tabs T (L2.upd H p o) :=
  tabs_move t fun a w i e => by
    rw [upd_ne (show a ≠ p from fun z => by rw [z, hp] at e; cases e; exact nu i)]
    exact e
theorem NoT.no {u : HO} (n : NoT u) (t : IsT u) : False := by
  cases u with
  | _ => first | exact n | exact t
theorem tk_upd {p : Addr} {o u : HO} (hp : H p = some u) (n : NoT u) : TK G H (L2.upd H p o) := fun a xs t h => by
  rw [upd_ne]
  · exact h
  · rintro rfl
    rw [h] at hp
    cases hp
    exact n.no t
theorem rd_new {p : Addr} {o : HO} (hp : H p = none) {a : Addr} {u : HO} (h : Rd H a u) : Rd (L2.upd H p o) a u := by
  have hne : a ≠ p := fun e => rd_some h (by rw [e]; exact hp)
  rcases h with h | ⟨ob, h⟩
  · exact .inl (by rw [upd_ne hne]; exact h)
  · exact .inr ⟨ob, by rw [upd_ne hne]; exact h⟩
theorem Le.new {p : Addr} {o : HO} (hp : H p = none) : Le G ρ H ρ (L2.upd H p o) := ⟨List.prefix_refl _, rfl, tk_new hp, fun _ _ _ h => by rw [upd_ne (ne_of_none h hp)]; exact h, fun _ _ _ _ h => rd_new hp h, fun a h e => ⟨h, by
  rw [upd_ne (show a ≠ p from fun z => e.ne (by rw [z]; exact hp))]; exact e⟩, fun a _ e => upd_ne (show a ≠ p from fun z => e (by rw [z]; exact hp)), fun _ _ _ h => by rw [upd_ne (ne_of_none h hp)]; exact h⟩
theorem Le.push {p : Addr} {o : HO} (hp : H p = none) : Le G ρ H (ρ.push p) (L2.upd H p o) := ⟨List.prefix_append _ _, rfl, tk_new hp, fun _ _ _ h => by rw [upd_ne (ne_of_none h hp)]; exact h, fun _ _ _ _ h => rd_new hp h, fun a h e => by
  have hne : a ≠ p := fun z => e.ne (by rw [z]; exact hp)
  exact ⟨⟨by simp [Wd.push, h.1, hne], h.2⟩, by rw [upd_ne hne]; exact e⟩, fun a _ e => upd_ne (show a ≠ p from fun z => e (by rw [z]; exact hp)), fun _ _ _ h => by rw [upd_ne (ne_of_none h hp)]; exact h⟩
theorem Le.upd {p : Addr} {u u' : HO} (hm : p ∈ ρ.v) (hx : p ∉ ρ.h) (hp : H p = some u) (n : NoT u) : Le G ρ H ρ (L2.upd H p u') := ⟨List.prefix_refl _, rfl, tk_upd hp n, fun a xs ha h => by
    rw [upd_ne (show a ≠ p from fun z => ha.1 (by rw [z]; exact hm))]; exact h, fun a v ha _ h => by
  have hne : a ≠ p := fun z => ha.1 (by rw [z]; exact hm)
  rcases h with h | ⟨ob, h⟩
  · exact .inl (by rw [upd_ne hne]; exact h)
  · exact .inr ⟨ob, by rw [upd_ne hne]; exact h⟩, fun a ha e => ⟨ha, by rw [upd_ne (show a ≠ p from fun z => ha.1 (by rw [z]; exact hm))]; exact e⟩, fun a ha _ => upd_ne (show a ≠ p from fun z => hx (by rw [← z]; exact ha)), fun a o v h => by
  rw [upd_ne (show a ≠ p from fun z => by rw [z, hp] at h; cases h; exact n)]
  exact h⟩
/-- something new that the store does not know -/
theorem Rl.other {p : Addr} {o : HO} (r : Rl G ρ S H) (hp : H p = none) : Rl G ρ S (L2.upd H p o) := by
  refine ⟨r.len, r.nd, fun a ha => ⟨(r.hh a ha).1, ?_⟩, fun i ob e => ?_, tabs_new r.tb hp⟩
  · have e := (r.hh a ha).2
    rw [upd_ne (show a ≠ p from fun z => e.ne (by rw [z]; exact hp))]
    exact e
  · obtain ⟨a, u, h1, h2, h3⟩ := r.ob i ob e
    exact ⟨a, u, h1, by rw [upd_ne (ne_of_none h2 hp)]; exact h2, h3.mono (Le.new hp)⟩
theorem Store.all {S : Store} (i : Nat) (h : i < S.size) : ∃ o, S.get i = some o := by
  unfold Store.get Store.size at *
  exact ⟨S.objs[i], List.getElem?_eq_getElem h⟩
theorem Rl.no {p : Addr} (r : Rl G ρ S H) (hp : H p = none) : ρ.no p := by
  refine ⟨fun hm => ?_, fun hm => (r.hh p hm).2.ne hp⟩
  obtain ⟨i, hl, e⟩ := List.getElem_of_mem hm
  obtain ⟨o, ho⟩ := Store.all (S := S) i (by rw [← r.len]; exact hl)
  obtain ⟨a, u, h1, h2, _⟩ := r.ob i o ho
  rw [List.getElem?_eq_getElem hl, e] at h1
  cases h1
  rw [h2] at hp
  cases hp
theorem Rl.nh {p : Addr} {i : Nat} (r : Rl G ρ S H) (hi : ρ.v[i]? = some p) : p ∉ ρ.h := fun hm => (r.hh p hm).1 (List.mem_of_getElem? hi)
theorem Rl.leUpd {p : Addr} {i : Nat} {u u' : HO} (r : Rl G ρ S H) (hi : ρ.v[i]? = some p) (hp : H p = some u) (n : NoT u) : Le G ρ H ρ (L2.upd H p u') := Le.upd (List.mem_of_getElem? hi) (r.nh hi) hp n
/-- a new thing of the store -/
theorem Rl.push {p : Addr} {o : Ob} {u : HO} (r : Rl G ρ S H) (hp : H p = none) (ro : RO G ρ H o u) : Rl G (ρ.push p) (S.push o) (L2.upd H p u) := by
  have l : Le G ρ H (ρ.push p) (L2.upd H p u) := Le.push hp
  have hn := r.no hp
  refine ⟨by simp [Wd.push, r.len, Store.size_push], ?_, fun a ha => ?_, fun i ob e => ?_, tabs_new r.tb hp⟩
  · show (ρ.v ++ [p]).Nodup
    rw [List.nodup_append]
    refine ⟨r.nd, by simp, fun a ha b hb => ?_⟩
    simp only [List.mem_singleton] at hb
    subst hb
    rintro rfl
    exact hn.1 ha
  · obtain ⟨h1, h2⟩ := r.hh a ha
    have hne : a ≠ p := fun z => h2.ne (by rw [z]; exact hp)
    exact ⟨by simp [Wd.push, h1, hne], by rw [upd_ne hne]; exact h2⟩
  · by_cases hi : i = S.size
    · subst hi
      rw [Store.get_push_same] at e
      cases e
      refine ⟨p, u, ?_, upd_same, ro.mono l⟩
      rw [← r.len]
      simp [Wd.push]
    · rw [Store.get_push_ne hi] at e
      obtain ⟨a, u', h1, h2, h3⟩ := r.ob i ob e
      exact ⟨a, u', pre_get l.pre h1, by rw [upd_ne (ne_of_none h2 hp)]; exact h2, h3.mono l⟩
theorem RV.new {p : Addr} {u : HO} (r : Rl G ρ S H) : RV G (ρ.push p) (L2.upd H p u) (.ref S.size) (.ref p) := .ref (by rw [← r.len]; simp [Wd.push])
theorem nd_get {l : List Addr} (nd : l.Nodup) {i j : Nat} {a : Addr} (h1 : l[i]? = some a) (h2 : l[j]? = some a) : i = j := by
  obtain ⟨a1, e1⟩ := List.getElem?_eq_some_iff.mp h1
  obtain ⟨a2, e2⟩ := List.getElem?_eq_some_iff.mp h2
  have pw := List.pairwise_iff_getElem.mp nd
  rcases Nat.lt_trichotomy i j with h | h | h
  · exact absurd (e1.trans e2.symm) (pw i j a1 a2 h)
  · exact h
  · exact absurd (e2.trans e1.symm) (pw j i a2 a1 h)
/-- a thing of the store is changed -/
theorem Rl.set {p : Addr} {o o' : Ob} {u u' : HO} {i : Nat} (r : Rl G ρ S H) (hi : ρ.v[i]? = some p) (ho : S.get i = some o) (hp : H p = some u) (n : NoT u) (ro : RO G ρ H o' u') : Rl G ρ (S.set i o') (L2.upd H p u') := by
  have l : Le G ρ H ρ (L2.upd H p u') := r.leUpd hi hp n
  refine ⟨by rw [Store.size_set]; exact r.len, r.nd, fun a ha => ⟨(r.hh a ha).1, ?_⟩, fun j ob e => ?_, tabs_upd r.tb hp n.noE⟩
  · rw [l.kh a ha (r.hh a ha).2.ne]
    exact (r.hh a ha).2
  by_cases hij : i = j
  · subst hij
    rw [Store.get_set_same (Store.get_lt ho)] at e
    cases e
    exact ⟨p, u', hi, upd_same, ro.mono l⟩
  · rw [Store.get_set_ne hij] at e
    obtain ⟨a, v, h1, h2, h3⟩ := r.ob j ob e
    refine ⟨a, v, h1, ?_, h3.mono l⟩
    rw [upd_ne]
    · exact h2
    · rintro rfl
      exact hij (nd_get r.nd hi h1)
/-- what stands at a reference -/
theorem Rl.at {i : Nat} {a : Addr} {o : Ob} (r : Rl G ρ S H) (h : ρ.v[i]? = some a) (e : S.get i = some o) : ∃ u, H a = some u ∧ RO G ρ H o u := by
  obtain ⟨b, u, h1, h2, h3⟩ := r.ob i o e
  rw [h] at h1
  cases h1
  exact ⟨u, h2, h3⟩
end
end L2.Mi

set_option Elab.async false
set_option linter.all false
set_option maxRecDepth 100000
set_option maxHeartbeats 4000000
namespace L2.Mi
open PySem PySem.Spec PyProof.Rows

theorem Res.bind_assoc {α β γ : Type} {r : Res α} {f : α → Store → Res β} {g : β → Store → Res γ} : (r.bind f).bind g = r.bind fun a S => (f a S).bind g := by
  cases r <;> rfl

def eVar (i : Nat) : ME := fun σ S => match σ[i]? with | some (some d) => .ok d S | _ => .bad
def eC (d : D) : ME := fun _ S => .ok d S
def eBin (f : D → D → Store → Res D) (a b : ME) : ME := fun σ S => (a σ S).bind fun x S1 => (b σ S1).bind fun y S2 => f x y S2
def eUn (f : D → Store → Res D) (a : ME) : ME := fun σ S => (a σ S).bind fun x S1 => f x S1
def aList : List ME → MA
  | [] => fun _ S => .ok [] S
  | m :: ms => fun σ S => (m σ S).bind fun x S1 => (aList ms σ S1).bind fun xs S2 => .ok (x :: xs) S2
def eTup (ms : List ME) : ME := fun σ S => (aList ms σ S).bind fun xs S1 => .ok (.tup xs) S1
/-- a list that is changed later, one that is not -/
def eLst (ms : List ME) : ME := fun σ S => (aList ms σ S).bind fun xs S1 => .ok (.ref S1.size) (S1.push (.lst xs))
def eLv (ms : List ME) : ME := fun σ S => (aList ms σ S).bind fun xs S1 => .ok (.lv xs) S1
/-- a call of a built-in -/
def eFn (f : List D → Store → Res D) (a : MA) : ME := fun σ S => (a σ S).bind f
def tOf (m : ME) : MT := fun σ S => (m σ S).bind fun d S1 => match d with | .bl b => .ok b S1 | _ => .bad
def tAnd (a b : MT) : MT := fun σ S => (a σ S).bind fun c S1 => if c then b σ S1 else .ok false S1
def tOr (a b : MT) : MT := fun σ S => (a σ S).bind fun c S1 => if c then .ok true S1 else b σ S1
def tNot (a : MT) : MT := fun σ S => (a σ S).bind fun c S1 => .ok (!c) S1
def eAnd (a b : ME) : ME := fun σ S => (tOf a σ S).bind fun c S1 => if c then b σ S1 else .ok (.bl false) S1
def eIf (t : MT) (a b : ME) : ME := fun σ S => (t σ S).bind fun c S1 => if c then a σ S1 else b σ S1
def sNext : MS := fun σ S => .nx σ S
def sSeq (a b : MS) : MS := fun σ S => match a σ S with | .nx σ1 S1 => b σ1 S1 | r => r
def sRet (m : ME) : MS := fun σ S => match m σ S with | .ok d S1 => .rt d S1 | .exc x S1 => .exc x σ S1 | .bad => .bad
def sDrop (m : ME) : MS := fun σ S => match m σ S with | .ok _ S1 => .nx σ S1 | .exc x S1 => .exc x σ S1 | .bad => .bad
def sIf (t : MT) (a b : MS) : MS := fun σ S => match t σ S with | .ok c S1 => (if c then a σ S1 else b σ S1) | .exc x S1 => .exc x σ S1 | .bad => .bad
/-- targets -/
abbrev MG := D → En → Store → Res En
def gName (i : Nat) : MG := fun d σ S => .ok (σ.set i (some d)) S
def gAll : List MG → List D → En → Store → Res En
  | [], [], σ, S => .ok σ S
  | g :: gs, d :: ds, σ, S => (g d σ S).bind fun σ1 S1 => gAll gs ds σ1 S1
  | _, _, _, _ => .bad
def gTup (gs : List MG) : MG := fun d σ S => match d with
  | .tup ds => gAll gs ds σ S
  | _ => .bad
def sAsg (m : ME) (g : MG) : MS := fun σ S => match m σ S with
  | .ok d S1 => (match g d σ S1 with | .ok σ2 S2 => .nx σ2 S2 | _ => .bad)
  | .exc x S1 => .exc x σ S1
  | .bad => .bad
abbrev sSet (i : Nat) (m : ME) : MS := sAsg m (gName i)
def sAug (i : Nat) (f : D → D → Store → Res D) (m : ME) : MS := fun σ S => match σ[i]? with
  | some (some x) => (match (m σ S).bind fun y S1 => f x y S1 with | .ok d S1 => .nx (σ.set i (some d)) S1 | .exc z S1 => .exc z σ S1 | .bad => .bad)
  | _ => .bad
def sWhile (t : MT) (b : MS) : Nat → MS
  | 0 => fun _ _ => .bad
  | n + 1 => fun σ S => match t σ S with
    | .ok true S1 => (match b σ S1 with
      | .nx σ2 S2 => sWhile t b n σ2 S2
      | .ct σ2 S2 => sWhile t b n σ2 S2
      | .bk σ2 S2 => .nx σ2 S2
      | r => r)
    | .ok false S1 => .nx σ S1
    | .exc x S1 => .exc x σ S1
    | .bad => .bad
/-- what is walked: at turn k, in a store: an item, or the end -/
abbrev Src := Nat → Store → Option (Option D)
abbrev MI := En → Store → Res Src
def forGo (src : Src) (g : MG) (b : MS) : Nat → Nat → MS
  | 0, _ => fun _ _ => .bad
  | n + 1, k => fun σ S => match src k S with
    | none => .bad
    | some none => .nx σ S
    | some (some d) => (match g d σ S with
      | .ok σ1 S1 => (match b σ1 S1 with
        | .nx σ2 S2 => forGo src g b n (k + 1) σ2 S2
        | .ct σ2 S2 => forGo src g b n (k + 1) σ2 S2
        | .bk σ2 S2 => .nx σ2 S2
        | r => r)
      | _ => .bad)
def sFor (i : MI) (g : MG) (b : MS) (n : Nat) : MS := fun σ S => match i σ S with
  | .ok src S1 => forGo src g b n 0 σ S1
  | .exc x S1 => .exc x σ S1
  | .bad => .bad
def iTup (m : ME) : MI := fun σ S => (m σ S).bind fun d S1 => match d with
  | .tup ds => .ok (fun k _ => some ds[k]?) S1
  | .kt ds => .ok (fun k _ => some ds[k]?) S1
  | _ => .bad
/-- the items of a list as it stands -/
def listAt (S : Store) : D → Option (List D)
  | .lv ds => some ds
  | .fl ds => some ds
  | .ref a => (match S.get a with | some (.lst ds) => some ds | some (.lck (.lst ds)) => some ds | _ => none)
  | _ => none
def iList (m : ME) : MI := fun σ S => (m σ S).bind fun d S1 => match listAt S1 d with
  | some _ => .ok (fun k S' => (listAt S' d).map fun ds => ds[k]?) S1
  | none => .bad
def i62 (j : Int) : Bool := decide (-(2 ^ 62) ≤ j) && decide (j < 2 ^ 62)
def iRange1 (m : ME) : MI := fun σ S => (m σ S).bind fun d S1 => match d with
  | .int j => if i62 j then .ok (fun k _ => some (if k < j.toNat then some (.int (0 + (k : Int))) else none)) S1 else .bad
  | _ => .bad
structure Cc (G : Gx) (X : Cx) (W : WX) : Prop where
  k : X.K = G.K
  tk : Takes X W
  hp : PassesOwn (model X.prog X.w) X.A X.env X.xe
  calm : X.calm = true
  nd : X.N.Nodup
abbrev SE (G : Gx) (X : Cx) (W : WX) (e : Expr) (m : ME) : Prop := PE X e (tm G W m)
abbrev SA (G : Gx) (X : Cx) (W : WX) (es : List Expr) (m : MA) : Prop := PA X es (tma G W m)
abbrev ST (G : Gx) (X : Cx) (W : WX) (e : Expr) (m : MT) : Prop := PT X e (tmt G W m)
abbrev SW (G : Gx) (X : Cx) (W : WX) (e : Expr) (m : MT) : Prop := PW X e (tmt G W m)
abbrev SS (G : Gx) (X : Cx) (W : WX) (st : Stmt) (m : MS) : Prop := PS X st (tms G W m)
abbrev SSs (G : Gx) (X : Cx) (W : WX) (st : List Stmt) (m : MS) : Prop := PSs X st (tms G W m)

abbrev EW (W : WX) (σ : St) : XK := fun c d H' => W c d σ H'
section
variable {G : Gx} {X : Cx} {W : WX} {pins : List (Addr × Obj)} {σ : St} {H : Hp} {s : Shared} {ρ : Wd} {σs : En} {S : Store} {α β : Type} {R : Wd → Hp → α → β → Prop} {Q : β → Hp → Prop}
/-- an expression, then the rest -/
theorem SE.go {e : Expr} {m : ME} {f : D → Store → Res α} (h : SE G X W e m) (I : Inv X pins σ H s) (rl : Rl G ρ S H) (re : RE G ρ H σs σ) (p : PostR G R ρ H ((m σs S).bind f) Q (EW W σ)) {Z : Value → Shared → Prop}
    (k : ∀ v s1 x H1 ρ1 S1 d, Inv X pins σ H1 s1 → RelV x v → Le G ρ H ρ1 H1 → Rl G ρ1 S1 H1 → RE G ρ1 H1 σs σ → RV G ρ1 H1 d x → PostR G R ρ1 H1 (f d S1) Q (EW W σ) → Z v s1) :
    wpAny (model X.prog X.w) X.A (eval e X.env) Z X.xe s := by
  refine thn (h.run pins s σ H (fun x H1 => ∃ ρ1 S1 d, Le G ρ H ρ1 H1 ∧ Rl G ρ1 S1 H1 ∧ RV G ρ1 H1 d x ∧ PostR G R ρ1 H1 (f d S1) Q (EW W σ)) I ⟨ρ, σs, S, rl, re, p.bind (R := RV G) fun ρ1 H1 S1 d v l r1 rv p1 => ⟨ρ1, S1, d, l, r1, rv, p1⟩⟩) ?_
  rintro v s1 ⟨x, H1, I1, rx, ρ1, S1, d, l, r1, rv, p1⟩
  exact k v s1 x H1 ρ1 S1 d I1 rx l r1 (re.mono l) rv p1
theorem SA.go {es : List Expr} {m : MA} {pos : Pos} {f : List D → Store → Res α} (h : SA G X W es m) (I : Inv X pins σ H s) (rl : Rl G ρ S H) (re : RE G ρ H σs σ) (p : PostR G R ρ H ((m σs S).bind f) Q (EW W σ)) {Z : List Value → Shared → Prop}
    (k : ∀ us s1 xs H1 ρ1 S1 ds, Inv X pins σ H1 s1 → Vals xs us → Le G ρ H ρ1 H1 → Rl G ρ1 S1 H1 → RE G ρ1 H1 σs σ → RVs G ρ1 H1 ds xs → PostR G R ρ1 H1 (f ds S1) Q (EW W σ) → Z us s1) :
    wpAny (model X.prog X.w) X.A (spliced (backTo pos (starEach es X.env))) Z X.xe s := by
  refine thn (h.run pos pins s σ H (fun xs H1 => ∃ ρ1 S1 ds, Le G ρ H ρ1 H1 ∧ Rl G ρ1 S1 H1 ∧ RVs G ρ1 H1 ds xs ∧ PostR G R ρ1 H1 (f ds S1) Q (EW W σ)) I ⟨ρ, σs, S, rl, re, p.bind (R := RVs G) fun ρ1 H1 S1 d v l r1 rv p1 => ⟨ρ1, S1, d, l, r1, rv, p1⟩⟩) ?_
  rintro v s1 ⟨x, H1, I1, rx, ρ1, S1, d, l, r1, rv, p1⟩
  exact k v s1 x H1 ρ1 S1 d I1 rx l r1 (re.mono l) rv p1
theorem ST.go {e : Expr} {m : MT} {f : Bool → Store → Res α} (h : ST G X W e m) (I : Inv X pins σ H s) (rl : Rl G ρ S H) (re : RE G ρ H σs σ) (p : PostR G R ρ H ((m σs S).bind f) Q (EW W σ)) {Z : Bool → Shared → Prop}
    (k : ∀ b s1 H1 ρ1 S1, Inv X pins σ H1 s1 → Le G ρ H ρ1 H1 → Rl G ρ1 S1 H1 → RE G ρ1 H1 σs σ → PostR G R ρ1 H1 (f b S1) Q (EW W σ) → Z b s1) :
    wpAny (model X.prog X.w) X.A (isTrue e X.env (eval e X.env)) Z X.xe s := by
  refine thn (h.run pins s σ H (fun b H1 => ∃ ρ1 S1, Le G ρ H ρ1 H1 ∧ Rl G ρ1 S1 H1 ∧ PostR G R ρ1 H1 (f b S1) Q (EW W σ)) I ⟨ρ, σs, S, rl, re, p.bind (R := fun _ _ b c => b = c) fun ρ1 H1 S1 d v l r1 rv p1 => ⟨ρ1, S1, l, r1, rv ▸ p1⟩⟩) ?_
  rintro v s1 ⟨H1, I1, ρ1, S1, l, r1, p1⟩
  exact k v s1 H1 ρ1 S1 I1 l r1 (re.mono l) p1
/-- a value is given out -/
theorem post_ok {Q : VK} {E : XK} {d : D} {x : V} (p : Post G ρ H (.ok d S) Q E) (rl : Rl G ρ S H) (rv : RV G ρ H d x) : Q x H := p ρ H x Le.refl rl rv
theorem post_new {Q : VK} {E : XK} {d : D} {x : V} {a : Addr} {u : HO} (p : Post G ρ H (.ok d S) Q E) (rl : Rl G ρ S H) (hn : H a = none) (rv : RV G ρ (L2.upd H a u) d x) : Q x (L2.upd H a u) := p ρ _ x (Le.new hn) (rl.other hn) rv
end

def OpS (G : Gx) (X : Cx) (W : WX) (F : Value → Value → Sem Value) (f : D → D → Store → Res D) : Prop :=
  ∀ (pins : List (Addr × Obj)) (s : Shared) (σ : St) (H : Hp) (x y : V) (v u : Value) (Q : VK) (ρ : Wd) (S : Store) (d1 d2 : D), Inv X pins σ H s → RelV x v → RelV y u → Rl G ρ S H → RV G ρ H d1 x → RV G ρ H d2 y →
    Post G ρ H (f d1 d2 S) Q (EW W σ) → wpAny (model X.prog X.w) X.A (F v u) (EP X pins σ Q) X.xe s
def UnS (G : Gx) (X : Cx) (W : WX) (F : Value → Sem Value) (f : D → Store → Res D) : Prop :=
  ∀ (pins : List (Addr × Obj)) (s : Shared) (σ : St) (H : Hp) (x : V) (v : Value) (Q : VK) (ρ : Wd) (S : Store) (d : D), Inv X pins σ H s → RelV x v → Rl G ρ S H → RV G ρ H d x →
    Post G ρ H (f d S) Q (EW W σ) → wpAny (model X.prog X.w) X.A (F v) (EP X pins σ Q) X.xe s
def FnS (G : Gx) (X : Cx) (W : WX) (F : Value) (f : List D → Store → Res D) : Prop :=
  ∀ (pins : List (Addr × Obj)) (s : Shared) (σ : St) (H : Hp) (xs : List V) (us : List Value) (Q : VK) (ρ : Wd) (S : Store) (ds : List D), Inv X pins σ H s → Vals xs us → Rl G ρ S H → RVs G ρ H ds xs →
    Post G ρ H (f ds S) Q (EW W σ) → wpAny (model X.prog X.w) X.A (call F us) (EP X pins σ Q) X.xe s
section
variable {G : Gx} {X : Cx} {W : WX}
theorem OpS.of {F : Value → Value → Sem Value} {f : D → D → Store → Res D} {r : R2} (ho : OpR X F r)
    (h : ∀ ρ S H d1 d2 x y Q E, Rl G ρ S H → RV G ρ H d1 x → RV G ρ H d2 y → Post G ρ H (f d1 d2 S) Q E → r x y H Q) : OpS G X W F f :=
  fun pins s σ H x y v u Q ρ S d1 d2 I rx ry rl r1 r2 p => ho pins s σ H x y v u Q I rx ry (h ρ S H d1 d2 x y Q _ rl r1 r2 p)
theorem UnS.of {F : Value → Sem Value} {f : D → Store → Res D} {r : V → Hp → VK → Prop} (ho : UnR X F r)
    (h : ∀ ρ S H d x Q E, Rl G ρ S H → RV G ρ H d x → Post G ρ H (f d S) Q E → r x H Q) : UnS G X W F f :=
  fun pins s σ H x v Q ρ S d I rx rl r1 p => ho pins s σ H x v Q I rx (h ρ S H d x Q _ rl r1 p)
theorem FnS.of {F : Value} {f : List D → Store → Res D} {r : List V → Hp → VK → Prop} (ho : CallR X F r)
    (h : ∀ ρ S H ds xs Q E, Rl G ρ S H → RVs G ρ H ds xs → Post G ρ H (f ds S) Q E → r xs H Q) : FnS G X W F f :=
  fun pins s σ H xs us Q ρ S ds I r rl r1 p => ho pins s σ H xs us Q I r (h ρ S H ds xs Q _ rl r1 p)
end

section
variable {G : Gx} {X : Cx} {W : WX} {a b c e : Expr} {es : List Expr} {ma mb mc m : ME} {t u : MT} {pos : Pos}
theorem se_of {tr : TE} (h : PE X e tr) (i : ∀ σ H Q ρ σs S, Rl G ρ S H → RE G ρ H σs σ → Post G ρ H (m σs S) Q (EW W σ) → tr σ H Q) : SE G X W e m :=
  PE.weak h fun σ H Q ⟨ρ, σs, S, rl, re, p⟩ => i σ H Q ρ σs S rl re p
theorem se_var (i : Nat) {x : Str} (hN : X.N[i]? = some x := by rfl) (hv : Vis X.env.scope x := by first | exact Or.inl rfl | exact Or.inr (Or.inl rfl) | exact Or.inr (Or.inr rfl)) (hd : (x == ("__debug__" : Str)) = false := by decide)
    (hcd : (x == ("__classdict__" : Str)) = false := by decide) : SE G X W (.Name x pos) (eVar i) := by
  refine se_of (pe_var hN hv hd hcd) fun σ H Q ρ σs S rl re p => ?_
  unfold eVar at p
  cases q : σs[i]? with
  | none => rw [q] at p; exact p.elim
  | some o =>
    cases o with
    | none => rw [q] at p; exact p.elim
    | some d =>
      rw [q] at p
      obtain ⟨v, h1, h2⟩ := re.get i d q
      exact ⟨v, h1, post_ok p rl h2⟩
theorem se_int {i : Int} {j : Nat} : SE G X W (.Constant (.int i) j pos) (eC (.int i)) := se_of pe_int fun _ _ _ _ _ _ rl _ p => post_ok p rl (.int i)
theorem se_bl {i : Bool} {j : Nat} : SE G X W (.Constant (.bool i) j pos) (eC (.bl i)) := se_of pe_bl fun _ _ _ _ _ _ rl _ p => post_ok p rl (.bl i)
theorem se_non {j : Nat} : SE G X W (.Constant .none j pos) (eC .non) := se_of pe_non fun _ _ _ _ _ _ rl _ p => post_ok p rl .non
theorem rv_str {ρ : Wd} {H : Hp} (x : Str) : RV G ρ H (.str x.cps.toList) (.str x) := by
  have h : RV G ρ H (.str x.cps.toList) (.str ⟨x.cps.toList.toArray⟩) := .str x.cps.toList
  simpa using h
theorem se_str {x : Str} {j : Nat} (l : List Nat) (hl : x.cps.toList = l := by rfl) : SE G X W (.Constant (.str x) j pos) (eC (.str l)) := by
  subst hl
  exact se_of pe_str fun _ _ _ _ _ _ rl _ p => post_ok p rl (rv_str x)
/-- a constant of the module -/
theorem se_glob {x : Str} {v : V} {w : Value} {d : D} (hg : Gl X x) (hm : X.mg x = some w) (r : RelV v w) (rv : ∀ ρ H, RV G ρ H d v) (hdb : (x == ("__debug__" : Str)) = false := by decide) : SE G X W (.Name x pos) (eC d) :=
  se_of (pe_glob hg hm r hdb) fun _ _ _ _ _ _ rl _ p => post_ok p rl (rv _ _)
theorem se_bin {op : Operator} {f : D → D → Store → Res D} (ho : OpS G X W (binaryOp op) f) (ha : SE G X W a ma) (hb : SE G X W b mb) : SE G X W (.BinOp a op b pos) (eBin f ma mb) :=
  ⟨fun pins s σ H Q I ⟨ρ, σs, S, rl, re, p⟩ => wpAny_BinOp (ha.go I rl re p fun v s1 x H1 ρ1 S1 d I1 rx l1 rl1 re1 rv1 p1 => hb.go I1 rl1 re1 p1 fun u s2 y H2 ρ2 S2 e I2 ry l2 rl2 re2 rv2 p2 =>
    ho pins s2 σ H2 x y v u Q ρ2 S2 d e I2 rx ry rl2 (rv1.mono l2) rv2 p2)⟩
theorem se_un {op : UnaryOp} {f : D → Store → Res D} (ho : UnS G X W (unaryOp op) f) (ha : SE G X W a ma) : SE G X W (.UnaryOp op a pos) (eUn f ma) :=
  ⟨fun pins s σ H Q I ⟨ρ, σs, S, rl, re, p⟩ => UnaryOp_ (ha.go I rl re p fun v s1 x H1 ρ1 S1 d I1 rx l1 rl1 re1 rv1 p1 => ho pins s1 σ H1 x v Q ρ1 S1 d I1 rx rl1 rv1 p1)⟩
theorem se_cmp {op : CmpOp} {f : D → D → Store → Res D} (ho : OpS G X W (compareOp op) f) (ha : SE G X W a ma) (hb : SE G X W b mb) (hm : behindInMarks op b = false := by first | exact nobehind _ (by decide) (by decide) | rfl) : SE G X W (.Compare a [op] [b] pos) (eBin f ma mb) :=
  ⟨fun pins s σ H Q I ⟨ρ, σs, S, rl, re, p⟩ => wpAny_Compare1 (ha.go I rl re p fun v s1 x H1 ρ1 S1 d I1 rx l1 rl1 re1 rv1 p1 => hb.go I1 rl1 re1 p1 fun u s2 y H2 ρ2 S2 e I2 ry l2 rl2 re2 rv2 p2 =>
    ho pins s2 σ H2 x y v u Q ρ2 S2 d e I2 rx ry rl2 (rv1.mono l2) rv2 p2) hm⟩
/-- a value that is a bool, behind a test's run -/
theorem bool_go {pins : List (Addr × Obj)} {σ : St} {H : Hp} {ρ : Wd} {d : D} {S : Store} {Q : Bool → Hp → Prop} {E : XK} {x : V} (p : PostT G ρ H (match d with | .bl b => .ok b S | _ => .bad) Q E) (rl : Rl G ρ S H) (rv : RV G ρ H d x) : ∃ k, x = .bl k ∧ Q k H := by
  cases rv with
  | bl b => exact ⟨b, rfl, p ρ H b Le.refl rl rfl⟩
  | _ => exact p.elim
/-- a comparison as a test -/
theorem st_cmp {op : CmpOp} {f : D → D → Store → Res D} (ho : OpS G X W (compareOp op) f) (ha : SE G X W a ma) (hb : SE G X W b mb) (hm : behindInMarks op b = false := by first | exact nobehind _ (by decide) (by decide) | rfl) : ST G X W (.Compare a [op] [b] pos) (tOf (eBin f ma mb)) := by
  refine ⟨fun pins s σ H Q I ⟨ρ, σs, S, rl, re, p⟩ => ?_⟩
  have p0 : PostT G ρ H ((ma σs S).bind fun x S1 => ((mb σs S1).bind fun y S2 => f x y S2).bind fun d S3 => match d with | .bl b => .ok b S3 | _ => .bad) Q (EW W σ) := by
    have p' := p
    unfold tOf eBin at p'
    rw [Res.bind_assoc] at p'
    exact p'
  refine wpAny_isTrue_Compare1 (ha.go I rl re p0 fun v s1 x H1 ρ1 S1 d I1 rx l1 rl1 re1 rv1 p1 => ?_) hm
  have p1' : PostT G ρ1 H1 ((mb σs S1).bind fun y S2 => (f d y S2).bind fun d S3 => match d with | .bl b => .ok b S3 | _ => .bad) Q (EW W σ) := by
    rw [Res.bind_assoc] at p1
    exact p1
  refine hb.go I1 rl1 re1 p1' fun u s2 y H2 ρ2 S2 e I2 ry l2 rl2 re2 rv2 p2 => ?_
  refine thn (ho pins s2 σ H2 x y v u _ ρ2 S2 d e I2 rx ry rl2 (rv1.mono l2) rv2 (p2.bind (R := RV G) (Q1 := fun z H3 => ∃ k, z = .bl k ∧ Q k H3) fun ρ3 H3 S3 z w l3 rl3 rv3 p3 => bool_go (pins := pins) (σ := σ) p3 rl3 rv3)) ?_
  rintro c s3 ⟨z, H3, I3, r3, k, rfl, q3⟩
  cases r3
  exact wpAny_truthy_bool ⟨H3, I3, q3⟩
theorem sw_and1 (ha : ST G X W a t) : SW G X W (.BoolOp .And [a] pos) t := pw_and1 ha
theorem sw_or1 (ha : ST G X W a t) : SW G X W (.BoolOp .Or [a] pos) t := pw_or1 ha
theorem sw_and {rest : List Expr} (ha : ST G X W a t) (hb : SW G X W (.BoolOp .And (b :: rest) pos) u) : SW G X W (.BoolOp .And (a :: b :: rest) pos) (tAnd t u) := by
  refine PW.weak (pw_and ha hb) fun σ H Q ⟨ρ, σs, S, rl, re, p⟩ => ?_
  refine ⟨ρ, σs, S, rl, re, p.bind (R := fun _ _ b c => b = c) fun ρ1 H1 S1 c1 c2 l1 rl1 rv1 p1 => ?_⟩
  subst rv1
  cases c1 with
  | true => exact ⟨ρ1, σs, S1, rl1, re.mono l1, p1⟩
  | false => exact p1 ρ1 H1 false Le.refl rl1 rfl
theorem sw_or {rest : List Expr} (ha : ST G X W a t) (hb : SW G X W (.BoolOp .Or (b :: rest) pos) u) : SW G X W (.BoolOp .Or (a :: b :: rest) pos) (tOr t u) := by
  refine PW.weak (pw_or ha hb) fun σ H Q ⟨ρ, σs, S, rl, re, p⟩ => ?_
  refine ⟨ρ, σs, S, rl, re, p.bind (R := fun _ _ b c => b = c) fun ρ1 H1 S1 c1 c2 l1 rl1 rv1 p1 => ?_⟩
  subst rv1
  cases c1 with
  | false => exact ⟨ρ1, σs, S1, rl1, re.mono l1, p1⟩
  | true => exact p1 ρ1 H1 true Le.refl rl1 rfl
theorem st_w (h : SW G X W e t) : ST G X W e t := h.pt
theorem st_not (ha : ST G X W a t) : ST G X W (.UnaryOp .Not a pos) (tNot t) := by
  refine PT.weak (pt_not ha) fun σ H Q ⟨ρ, σs, S, rl, re, p⟩ => ?_
  refine ⟨ρ, σs, S, rl, re, p.bind (R := fun _ _ b c => b = c) fun ρ1 H1 S1 c1 c2 l1 rl1 rv1 p1 => ?_⟩
  subst rv1
  exact p1 ρ1 H1 (!c1) Le.refl rl1 rfl
/-- and, or, not as values of bools -/
theorem se_one {op} (h : SE G X W a m) : SE G X W (.BoolOp op [a] pos) m := pe_one h
theorem tof_go {σ : St} {H : Hp} {ρ : Wd} {σs : En} {S : Store} {Q : VK} {E : XK} {f : Bool → Store → Res D} (rl : Rl G ρ S H) (p : Post G ρ H ((tOf m σs S).bind f) Q E) {Q1 : VK}
    (k : ∀ ρ1 H1 S1 c, Le G ρ H ρ1 H1 → Rl G ρ1 S1 H1 → Post G ρ1 H1 (f c S1) Q E → Q1 (.bl c) H1) : Post G ρ H (m σs S) Q1 E := by
  unfold tOf at p
  cases q : m σs S with
  | ok d S1 =>
    rw [q] at p
    intro ρ1 H1 v l1 rl1 rv1
    cases rv1 with
    | bl b => exact k ρ1 H1 S1 b l1 rl1 (PostR.le (r := f b S1) p l1)
    | _ => exact False.elim p
  | exc x S1 => rw [q] at p; exact p
  | bad => rw [q] at p; exact p
theorem se_and {rest : List Expr} (ha : SE G X W a ma) (hb : SE G X W (.BoolOp .And (b :: rest) pos) mb) : SE G X W (.BoolOp .And (a :: b :: rest) pos) (eAnd ma mb) := by
  refine se_of (pe_and ha hb) fun σ H Q ρ σs S rl re p => ?_
  refine ⟨ρ, σs, S, rl, re, tof_go (σ := σ) rl p fun ρ1 H1 S1 c l1 rl1 p1 => ⟨c, rfl, ?_⟩⟩
  cases c with
  | true => exact ⟨ρ1, σs, S1, rl1, re.mono l1, p1⟩
  | false => exact post_ok (S := S1) p1 rl1 (.bl false)
theorem se_if (hc : ST G X W c t) (ha : SE G X W a ma) (hb : SE G X W b mb) : SE G X W (.IfExp c a b pos) (eIf t ma mb) := by
  refine se_of (pe_ifExp hc ha hb) fun σ H Q ρ σs S rl re p => ?_
  refine ⟨ρ, σs, S, rl, re, p.bind (R := fun _ _ b c => b = c) fun ρ1 H1 S1 c1 c2 l1 rl1 rv1 p1 => ?_⟩
  subst rv1
  cases c1 with
  | true => exact ⟨ρ1, σs, S1, rl1, re.mono l1, p1⟩
  | false => exact ⟨ρ1, σs, S1, rl1, re.mono l1, p1⟩
theorem sa_nil : SA G X W [] (aList []) := PA.weak pa_nil fun σ H Q ⟨ρ, σs, S, rl, re, p⟩ => p ρ H [] Le.refl rl .nil
theorem sa_cons {ms : List ME} (ha : SE G X W e m) (hr : SA G X W es (aList ms)) (hs : starEach (e :: es) X.env = (false, eval e X.env) :: starEach es X.env := by rfl) : SA G X W (e :: es) (aList (m :: ms)) := by
  refine PA.weak (pa_cons ha hr hs) fun σ H Q ⟨ρ, σs, S, rl, re, p⟩ => ?_
  refine ⟨ρ, σs, S, rl, re, PostR.bind (R := RV G) (r := m σs S) p fun ρ1 H1 S1 d v l1 rl1 rv1 p1 => ?_⟩
  refine ⟨ρ1, σs, S1, rl1, re.mono l1, PostR.bind (R := RVs G) (r := aList ms σs S1) p1 fun ρ2 H2 S2 ds vs l2 rl2 rv2 p2 => ?_⟩
  exact p2 ρ2 H2 _ Le.refl rl2 (.cons (rv1.mono l2) rv2)
theorem aList_len : ∀ {ms : List ME} {σs : En} {S S' : Store} {ds : List D}, aList ms σs S = .ok ds S' → ds.length = ms.length
  | [], σs, S, S', ds, h => by unfold aList at h; cases h; rfl
  | m :: ms, σs, S, S', ds, h => by
    unfold aList at h
    cases q : m σs S with
    | ok d S1 =>
      rw [q] at h
      cases q2 : aList ms σs S1 with
      | ok ds' S2 =>
        rw [Res.bind_ok, q2] at h
        cases h
        simp [aList_len q2]
      | exc x S2 => rw [Res.bind_ok, q2] at h; cases h
      | bad => rw [Res.bind_ok, q2] at h; cases h
    | exc x S1 => rw [q] at h; cases h
    | bad => rw [q] at h; cases h
theorem list_go {ms : List ME} {σ : St} {H : Hp} {ρ : Wd} {σs : En} {S : Store} {Q : VK} {E : XK} {f : List D → Store → Res D} (p : Post G ρ H ((aList ms σs S).bind f) Q E) {Q1 : List V → Hp → Prop}
    (k : ∀ ρ1 H1 S1 ds xs, Le G ρ H ρ1 H1 → Rl G ρ1 S1 H1 → RVs G ρ1 H1 ds xs → xs.length = ms.length → Post G ρ1 H1 (f ds S1) Q E → Q1 xs H1) : PostA G ρ H (aList ms σs S) Q1 E := by
  cases q : aList ms σs S with
  | ok ds S1 =>
    rw [q] at p
    exact fun ρ1 H1 xs l1 rl1 rv1 => k ρ1 H1 S1 ds xs l1 rl1 rv1 (by rw [← rv1.length, aList_len q]) (PostR.le (r := f ds S1) p l1)
  | exc x S1 => rw [q] at p; exact p
  | bad => rw [q] at p; exact p
theorem se_tup {ms : List ME} {x1} (h : SA G X W es (aList ms)) (hz : ms.length ≤ sizeLine := by first | decide | (rw [sizeLine_eq]; decide)) : SE G X W (.Tuple es x1 pos) (eTup ms) := by
  refine se_of (pe_tup h) fun σ H Q ρ σs S rl re p => ?_
  refine ⟨ρ, σs, S, rl, re, list_go (σ := σ) p fun ρ1 H1 S1 ds xs l1 rl1 rv1 hl p1 => ⟨by rw [hl]; exact hz, fun a hn => post_new p1 rl1 hn (.tup upd_same (rv1.mono (Le.new hn)))⟩⟩
theorem se_lst {ms : List ME} (h : SA G X W es (aList ms)) (hz : ms.length ≤ sizeLine := by first | decide | (rw [sizeLine_eq]; decide)) : SE G X W (.List es pos) (eLst ms) := by
  refine se_of (pe_lst h) fun σ H Q ρ σs S rl re p => ?_
  refine ⟨ρ, σs, S, rl, re, list_go (σ := σ) p fun ρ1 H1 S1 ds xs l1 rl1 rv1 hl p1 => ⟨by rw [hl]; exact hz, fun a hn => ?_⟩⟩
  exact p1 (ρ1.push a) _ _ (Le.push hn) (rl1.push hn (.lst rv1)) (RV.new rl1)
theorem se_lv {ms : List ME} (h : SA G X W es (aList ms)) (hz : ms.length ≤ sizeLine := by first | decide | (rw [sizeLine_eq]; decide)) : SE G X W (.List es pos) (eLv ms) := by
  refine se_of (pe_lst h) fun σ H Q ρ σs S rl re p => ?_
  refine ⟨ρ, σs, S, rl, re, list_go (σ := σ) p fun ρ1 H1 S1 ds xs l1 rl1 rv1 hl p1 => ⟨by rw [hl]; exact hz, fun a hn => post_new p1 rl1 hn (.lv (rl1.no hn) upd_same (rv1.mono (Le.new hn)))⟩⟩
/-- a built-in function, a built-in class by its name -/
theorem se_callB {x : Str} {id : String} {f : List D → Store → Res D} {p : Pos} {ma : MA} (hc : FnS G X W (.builtin id) f) (hg : Gl X x) (hm : X.mg x = none) (hv : bootBuiltins x = some (.builtin id)) (ha : SA G X W (e :: es) ma) (hn : x ≠ "__name__" := by decide) (hdb : (x == ("__debug__" : Str)) = false := by decide)
    (he : starEach (e :: es) X.env = (false, eval e X.env) :: starEach es X.env := by rfl) (hpl : (backTo pos (starEach es X.env)).any (·.1) = false := by rfl) : SE G X W (.Call (.Name x p) (e :: es) [] pos) (eFn f ma) := by
  refine ⟨fun pins s σ H Q I ⟨ρ, σs, S, rl, re, p⟩ => ?_⟩
  refine wpAny_Call_Name_kw (ld_blt I hg hm hv ?_ hn hdb)
  exact PyProof.Rows.callWith_builtin1 (ha.go I rl re p fun us s1 xs H1 ρ1 S1 ds I1 rx l1 rl1 re1 rv1 p1 => hc pins s1 σ H1 xs us Q ρ1 S1 ds I1 rx rl1 rv1 p1) he hpl
theorem se_callTy {x : Str} {T : String} {f : List D → Store → Res D} {p : Pos} {ma : MA} (hc : FnS G X W (.type T) f) (hg : Gl X x) (hm : X.mg x = none) (hv : bootBuiltins x = some (.type T)) (ha : SA G X W (e :: es) ma) (hn : x ≠ "__name__" := by decide) (hdb : (x == ("__debug__" : Str)) = false := by decide)
    (he : starEach (e :: es) X.env = (false, eval e X.env) :: starEach es X.env := by rfl) (hpl : (backTo pos (starEach es X.env)).any (·.1) = false := by rfl) : SE G X W (.Call (.Name x p) (e :: es) [] pos) (eFn f ma) := by
  refine ⟨fun pins s σ H Q I ⟨ρ, σs, S, rl, re, p⟩ => ?_⟩
  refine wpAny_Call_Name_kw (ld_blt I hg hm hv ?_ hn hdb)
  exact PyProof.Rows.callWith_type1 (ha.go I rl re p fun us s1 xs H1 ρ1 S1 ds I1 rx l1 rl1 re1 rv1 p1 => hc pins s1 σ H1 xs us Q ρ1 S1 ds I1 rx rl1 rv1 p1) he hpl
end
end L2.Mi

set_option Elab.async false
set_option linter.all false
set_option maxRecDepth 100000
set_option maxHeartbeats 4000000
namespace L2.Mi
open PySem PySem.Spec PyProof.Rows

section
variable {G : Gx} {X : Cx} {W : WX} {st : Stmt} {sts rest : List Stmt} {a b e : Expr} {ma mb m : ME} {t : MT} {k l : MS} {pos : Pos}
theorem ss_of {tr : TS} (h : PS X st tr) (i : ∀ σ H Dn ρ σs S, Rl G ρ S H → RE G ρ H σs σ → PostS G ρ H (k σs S) Dn W → tr Dn σ H) : SS G X W st k :=
  PS.weak h fun Dn σ H ⟨ρ, σs, S, rl, re, p⟩ => i σ H Dn ρ σs S rl re p
theorem sss_nil : SSs G X W [] sNext := PSs.weak pss_nil fun Dn σ H ⟨ρ, σs, S, rl, re, p⟩ => p ρ H σ Le.refl rl re
theorem sss_cons (h1 : SS G X W st k) (h2 : SSs G X W rest l) : SSs G X W (st :: rest) (sSeq k l) := by
  refine PSs.weak (pss_cons h1 h2) fun Dn σ H ⟨ρ, σs, S, rl, re, p⟩ => ?_
  refine ⟨ρ, σs, S, rl, re, ?_⟩
  unfold sSeq at p
  cases q : k σs S with
  | nx σ1 S1 =>
    rw [q] at p
    exact fun ρ1 H1 σ2 l1 rl1 re1 => ⟨ρ1, σ1, S1, rl1, re1, PostS.le (r := l σ1 S1) p l1⟩
  | rt d S1 => rw [q] at p; exact p
  | bk σ1 S1 => rw [q] at p; exact p
  | ct σ1 S1 => rw [q] at p; exact p
  | exc x σ1 S1 => rw [q] at p; exact p
  | bad => rw [q] at p; exact p
theorem sss_one (h1 : SS G X W st k) : SSs G X W [st] k := pss_one h1
/-- an expression's run inside a statement -/
theorem do_go {σ : St} {H : Hp} {ρ : Wd} {σs : En} {S : Store} {Dn : Ends} {f : D → Store → RS} (re : RE G ρ H σs σ) (p : PostS G ρ H (match m σs S with | .ok d S1 => f d S1 | .exc x S1 => .exc x σs S1 | .bad => .bad) Dn W) {Q1 : VK}
    (k : ∀ ρ1 H1 S1 d v, Le G ρ H ρ1 H1 → Rl G ρ1 S1 H1 → RV G ρ1 H1 d v → PostS G ρ1 H1 (f d S1) Dn W → Q1 v H1) : Post G ρ H (m σs S) Q1 (EW W σ) := by
  cases q : m σs S with
  | ok d S1 =>
    rw [q] at p
    exact fun ρ1 H1 v l1 rl1 rv1 => k ρ1 H1 S1 d v l1 rl1 rv1 (PostS.le (r := f d S1) p l1)
  | exc x S1 =>
    rw [q] at p
    exact fun ρ1 H1 c dd l1 rl1 rx => p ρ1 H1 σ c dd l1 rl1 (re.mono l1) rx
  | bad => rw [q] at p; exact p
theorem ss_expr (he : SE G X W e m) (hs : swapsWith e none pos.line X.env = pure false := by rfl) : SS G X W (.Expr e pos) (sDrop m) := by
  refine ss_of (ps_expr he hs) fun σ H Dn ρ σs S rl re p => ?_
  exact ⟨ρ, σs, S, rl, re, do_go re p fun ρ1 H1 S1 d v l1 rl1 rv1 p1 => p1 ρ1 H1 σ Le.refl rl1 (re.mono l1)⟩
theorem ss_ret (he : SE G X W e m) : SS G X W (.Return (some e) pos) (sRet m) := by
  refine ss_of (ps_ret he) fun σ H Dn ρ σs S rl re p => ?_
  exact ⟨ρ, σs, S, rl, re, do_go re p fun ρ1 H1 S1 d v l1 rl1 rv1 p1 => p1 ρ1 H1 v Le.refl rl1 rv1⟩
theorem ss_if {c : Expr} {sa sb : List Stmt} (hc : ST G X W c t) (ha : SSs G X W sa k) (hb : SSs G X W sb l) : SS G X W (.If c sa sb pos) (sIf t k l) := by
  refine ss_of (ps_if hc ha hb) fun σ H Dn ρ σs S rl re p => ?_
  refine ⟨ρ, σs, S, rl, re, ?_⟩
  unfold sIf at p
  cases q : t σs S with
  | ok c1 S1 =>
    rw [q] at p
    intro ρ1 H1 b l1 rl1 e
    subst e
    cases c1 with
    | true => exact ⟨ρ1, σs, S1, rl1, re.mono l1, PostS.le (r := k σs S1) p l1⟩
    | false => exact ⟨ρ1, σs, S1, rl1, re.mono l1, PostS.le (r := l σs S1) p l1⟩
  | exc x S1 =>
    rw [q] at p
    exact fun ρ1 H1 c dd l1 rl1 rx => p ρ1 H1 σ c dd l1 rl1 (re.mono l1) rx
  | bad => rw [q] at p; exact p

def PostG (G : Gx) (ρ : Wd) (H : Hp) (r : Res En) (Q : St → Hp → Prop) : Prop := match r with
  | .ok σs S => ∀ ρ' H' σ', Le G ρ H ρ' H' → Rl G ρ' S H' → RE G ρ' H' σs σ' → Q σ' H'
  | _ => False
def tmg (G : Gx) (g : MG) : TG := fun v σ H Q => ∃ ρ σs S d, Rl G ρ S H ∧ RE G ρ H σs σ ∧ RV G ρ H d v ∧ PostG G ρ H (g d σs S) Q
def tmgs (G : Gx) (gs : List MG) : TGs := fun vs σ H Q => ∃ ρ σs S ds, Rl G ρ S H ∧ RE G ρ H σs σ ∧ RVs G ρ H ds vs ∧ PostG G ρ H (gAll gs ds σs S) Q
abbrev SG (G : Gx) (X : Cx) (e : Expr) (g : MG) : Prop := PG X e (tmg G g)
abbrev SGs (G : Gx) (X : Cx) (es : List Expr) (gs : List MG) : Prop := PGs X es (tmgs G gs)
theorem PostG.le {ρ ρ' : Wd} {H H' : Hp} {r : Res En} {Q : St → Hp → Prop} (p : PostG G ρ H r Q) (l : Le G ρ H ρ' H') : PostG G ρ' H' r Q := by
  cases r with
  | ok d S => exact fun ρ2 H2 v l2 rl h => p ρ2 H2 v (l.trans l2) rl h
  | exc x S => exact p
  | bad => exact p
theorem PG.weak {e : Expr} {t t' : TG} (h : PG X e t) (i : ∀ v σ H Q, t' v σ H Q → t v σ H Q) : PG X e t' := ⟨fun pins s σ H v u Q I r q => h.run pins s σ H v u Q I r (i _ _ _ _ q)⟩
theorem PGs.weak {es : List Expr} {t t' : TGs} (h : PGs X es t) (i : ∀ v σ H Q, t' v σ H Q → t v σ H Q) : PGs X es t' := ⟨fun pins s σ H v u Q I r q => h.run pins s σ H v u Q I r (i _ _ _ _ q)⟩
theorem sg_name {i : Nat} {x : Str} (hN : X.N.Nodup) (hi : X.N[i]? = some x) (hx : Loc X.env.scope x) (hf : X.fn x = true ∨ X.env.scope.names.lookup x = some .local := by first | exact .inl rfl | exact .inr rfl | assumption) : SG G X (.Name x pos) (gName i) :=
  PG.weak (pg_name hN hi hx hf) fun v σ H Q ⟨ρ, σs, S, d, rl, re, rv, p⟩ => p ρ H _ Le.refl rl (re.set i rv)
theorem sgs_nil : SGs G X [] [] := PGs.weak pgs_nil fun vs σ H Q ⟨ρ, σs, S, ds, rl, re, rv, p⟩ => by
  cases rv with
  | nil => exact ⟨rfl, p ρ H σ Le.refl rl re⟩
  | cons _ _ => exact False.elim p
theorem sgs_cons {es : List Expr} {g : MG} {gs : List MG} (h1 : SG G X e g) (h2 : SGs G X es gs) (hs : (assignEach (e :: es) X.env).map (·.2) = assign e X.env :: (assignEach es X.env).map (·.2) := by rfl) : SGs G X (e :: es) (g :: gs) := by
  refine PGs.weak (pgs_cons h1 h2 hs) fun vs σ H Q ⟨ρ, σs, S, ds, rl, re, rv, p⟩ => ?_
  cases rv with
  | nil => exact False.elim p
  | @cons d ds v vs r1 r2 =>
    refine ⟨v, vs, rfl, ρ, σs, S, d, rl, re, r1, ?_⟩
    have p' : PostG G ρ H ((g d σs S).bind fun σ1 S1 => gAll gs ds σ1 S1) Q := p
    cases q : g d σs S with
    | ok σ1 S1 =>
      rw [q] at p'
      exact fun ρ1 H1 σ2 l1 rl1 re1 => ⟨ρ1, σ1, S1, ds, rl1, re1, r2.mono l1, PostG.le (r := gAll gs ds σ1 S1) p' l1⟩
    | exc x S1 => rw [q] at p'; exact p'
    | bad => rw [q] at p'; exact p'
theorem gAll_len : ∀ {gs : List MG} {ds : List D} {σs σ' : En} {S S' : Store}, gAll gs ds σs S = .ok σ' S' → ds.length = gs.length
  | [], [], _, _, _, _, _ => rfl
  | [], _ :: _, _, _, _, _, h => by cases h
  | _ :: _, [], _, _, _, _, h => by cases h
  | g :: gs, d :: ds, σs, σ', S, S', h => by
    have h' : ((g d σs S).bind fun σ1 S1 => gAll gs ds σ1 S1) = .ok σ' S' := h
    cases q : g d σs S with
    | ok σ1 S1 => rw [q] at h'; simp [gAll_len h']
    | exc x S1 => rw [q] at h'; cases h'
    | bad => rw [q] at h'; cases h'
theorem sg_tup {es : List Expr} {j : Nat} {gs : List MG} (c : Cc G X W) (h : SGs G X es gs) (hn : (assignEach es X.env).length = gs.length := by rfl) (hst : (assignEach es X.env).findIdx? (·.1) = none := by rfl) : SG G X (.Tuple es j pos) (gTup gs) := by
  refine PG.weak (pg_tup (n := gs.length) c.calm h hn hst) fun v σ H Q ⟨ρ, σs, S, d, rl, re, rv, p⟩ => ?_
  cases rv with
  | @tup ds a xs ht hr =>
    have p' : PostG G ρ H (gAll gs ds σs S) Q := p
    refine ⟨a, xs, rfl, SqT.of ht, ?_, ρ, σs, S, ds, rl, re, hr, p'⟩
    cases q : gAll gs ds σs S with
    | ok σ1 S1 => rw [← hr.length]; exact gAll_len q
    | exc x S1 => rw [q] at p'; exact p'.elim
    | bad => rw [q] at p'; exact p'.elim
  | _ => exact False.elim p
/-- o[i] = v -/
def StS (G : Gx) (X : Cx) (f : D → D → D → Store → Option Store) : Prop :=
  ∀ (pins : List (Addr × Obj)) (s : Shared) (σ : St) (H : Hp) (x y z : V) (v u w : Value) (Q : Hp → Prop) (ρ : Wd) (S S' : Store) (d1 d2 d3 : D), Inv X pins σ H s → RelV x v → RelV y u → RelV z w → Rl G ρ S H → RV G ρ H d1 x → RV G ρ H d2 y → RV G ρ H d3 z →
    f d1 d2 d3 S = some S' → (∀ ρ' H', Le G ρ H ρ' H' → Rl G ρ' S' H' → Q H') → wpAny (model X.prog X.w) X.A (setItem v u w) (fun _ s' => ∃ H', Inv X pins σ H' s' ∧ Q H') X.xe s
def gSub (mo mi : ME) (f : D → D → D → Store → Option Store) : MG := fun d σ S => match (mo σ S).bind fun o S1 => (mi σ S1).bind fun i S2 => (match f o i d S2 with | some S3 => Res.ok () S3 | none => .bad) with
  | .ok _ S3 => .ok σ S3
  | _ => .bad
theorem sg_sub {o i : Expr} {mo mi : ME} {f : D → D → D → Store → Option Store} (ho : SE G X W o mo) (hi : SE G X W i mi) (hs : StS G X f)
    (ha : ∀ v, assign (.Subscript o i pos) X.env v = (do
      let ov ← holding [v] (eval o X.env)
      let iv ← holding [v, ov] (eval i X.env)
      standAt pos
      holding [v, ov, iv] (setItem ov iv v)
      release [v, ov, iv] []) := by intro _; rfl) : SG G X (.Subscript o i pos) (gSub mo mi f) := by
  refine ⟨fun pins s σ H v u Q I r ⟨ρ, σs, S, d, rl, re, rv, p⟩ => ?_⟩
  rw [ha]
  have p0 : PostR (α := Unit) (β := Unit) G (fun _ _ _ _ => True) ρ H ((mo σs S).bind fun o S1 => (mi σs S1).bind fun i S2 => (match f o i d S2 with | some S3 => Res.ok () S3 | none => .bad)) (fun _ H' => Q σ H') (EW W σ) := by
    unfold gSub at p
    cases q : ((mo σs S).bind fun o S1 => (mi σs S1).bind fun i S2 => (match f o i d S2 with | some S3 => Res.ok () S3 | none => .bad)) with
    | ok x S3 => rw [q] at p; exact fun ρ1 H1 _ l1 rl1 _ => p ρ1 H1 σ l1 rl1 (re.mono l1)
    | exc x S3 => rw [q] at p; exact p.elim
    | bad => rw [q] at p; exact p.elim
  refine wpAny_bind (wpAny_holding (ho.go I rl re p0 fun ov s1 x H1 ρ1 S1 d1 I1 r1 l1 rl1 re1 rv1 p1 => ?_))
  refine wpAny_bind (wpAny_holding (hi.go I1 rl1 re1 p1 fun iv s2 y H2 ρ2 S2 d2 I2 r2 l2 rl2 re2 rv2 p2 => ?_))
  cases q : f d1 d2 d S2 with
  | none => rw [q] at p2; exact False.elim p2
  | some S3 =>
    rw [q] at p2
    refine wpAny_bind (wpAny_standAt (wpAny_bind (wpAny_holding (thn (hs pins s2 σ H2 x y v ov iv u (fun H3 => Q σ H3) ρ2 S2 S3 d1 d2 d I2 r1 r2 r rl2 (rv1.mono l2) rv2 (rv.mono (l1.trans l2)) q (fun ρ3 H3 l3 rl3 => p2 ρ3 H3 () l3 rl3 trivial)) fun _ s3 ⟨H3, I3, q3⟩ => ?_))))
    exact wpAny_release ⟨σ, H3, I3, q3⟩
/-- target = value -/
theorem asg_go {g : MG} {σ : St} {H : Hp} {ρ : Wd} {σs : En} {S : Store} {Dn : Ends} (rl : Rl G ρ S H) (re : RE G ρ H σs σ) (p : PostS G ρ H (sAsg m g σs S) Dn W) : tm G W m σ H fun x H1 => tmg G g x σ H1 Dn.nx := by
  refine ⟨ρ, σs, S, rl, re, do_go (f := fun d S1 => match g d σs S1 with | .ok σ2 S2 => .nx σ2 S2 | _ => .bad) re p fun ρ1 H1 S1 d v l1 rl1 rv1 p1 => ⟨ρ1, σs, S1, d, rl1, re.mono l1, rv1, ?_⟩⟩
  cases q : g d σs S1 with
  | ok σ2 S2 => simp only [q] at p1; exact p1
  | exc x S2 => simp only [q] at p1; exact p1
  | bad => simp only [q] at p1; exact p1
theorem ss_asg {tg : Expr} {g : MG} (he : SE G X W e m) (hg : SG G X tg g) (hs : swapsWithSole [tg] e pos.line X.env = pure false := by rfl) (hw : swappedStores [tg] e X.env = pure none := by rfl)
    (h1 : (assignEach [tg] X.env).map (·.2) = [assign tg X.env] := by rfl) : SS G X W (.Assign [tg] e pos) (sAsg m g) :=
  ss_of (ps_asg he hg hs hw h1) fun σ H Dn ρ σs S rl re p => asg_go rl re p
theorem ss_set {i : Nat} {x : Str} {pos' : Pos} (hN : X.N.Nodup) (hi : X.N[i]? = some x) (hx : Loc X.env.scope x) (he : SE G X W e m) (hs : swapsWith e (some (.Name x pos')) pos.line X.env = pure false := by rfl) (hf : X.fn x = true ∨ X.env.scope.names.lookup x = some .local := by first | exact .inl rfl | exact .inr rfl | assumption) :
    SS G X W (.Assign [.Name x pos'] e pos) (sSet i m) := by
  refine ss_of (ps_set hN hi hx he hs hf) fun σ H Dn ρ σs S rl re p => ?_
  refine ⟨ρ, σs, S, rl, re, do_go re p fun ρ1 H1 S1 d v l1 rl1 rv1 p1 => p1 ρ1 H1 _ Le.refl rl1 ((re.mono l1).set i rv1)⟩
/-- a, b = x, y -/
def sPar (i j : Nat) (a b : ME) : MS := fun σ S => match aList [a, b] σ S with
  | .ok [x, y] S1 => .nx ((σ.set i (some x)).set j (some y)) S1
  | .exc x S1 => .exc x σ S1
  | _ => .bad
theorem ss_par {i j : Nat} {x y : Str} {px py pt : Pos} {kt k2 pt2} (hc : X.calm = true) (hN : X.N.Nodup) (hi : X.N[i]? = some x) (hj : X.N[j]? = some y) (hij : i ≠ j)
    (hx : X.env.scope.names.lookup x = some .local) (hy : X.env.scope.names.lookup y = some .local) (ha : SA G X W [a, b] (aList [ma, mb])) (hs : swappedStores [.Tuple [.Name x px, .Name y py] kt pt] (.Tuple [a, b] k2 pt2) X.env = pure (some [x, y]) := by rfl) :
    SS G X W (.Assign [.Tuple [.Name x px, .Name y py] kt pt] (.Tuple [a, b] k2 pt2) pos) (sPar i j ma mb) := by
  refine ss_of (ps_par hc hN hi hj hij hx hy ha hs) fun σ H Dn ρ σs S rl re p => ?_
  refine ⟨ρ, σs, S, rl, re, ?_⟩
  unfold sPar at p
  cases q : aList [ma, mb] σs S with
  | ok ds S1 =>
    rw [q] at p
    have hl : ds.length = 2 := aList_len q
    match ds, hl, p with
    | [d1, d2], _, p =>
      intro ρ1 H1 vs l1 rl1 rv1
      cases rv1 with
      | cons r1 r2 =>
        cases r2 with
        | cons r2 r3 =>
          cases r3
          exact ⟨_, _, rfl, p ρ1 H1 _ l1 rl1 (((re.mono l1).set i r1).set j r2)⟩
  | exc x S1 =>
    rw [q] at p
    exact fun ρ1 H1 c dd l1 rl1 rx => p ρ1 H1 σ c dd l1 rl1 (re.mono l1) rx
  | bad => rw [q] at p; exact p
/-- x op= e -/
theorem ss_aug {i : Nat} {x : Str} {op : Operator} {f : D → D → Store → Res D} {pos' : Pos} {r : TIp} (hN : X.N.Nodup) (hi : X.N[i]? = some x) (hx : Loc X.env.scope x) (he : SE G X W e m) (ho : PIp X op r)
    (h : ∀ ρ S H d1 d2 x y Q E, Rl G ρ S H → RV G ρ H d1 x → RV G ρ H d2 y → Post G ρ H (f d1 d2 S) Q E → r x y H Q) (hf : X.fn x = true ∨ X.env.scope.names.lookup x = some .local := by first | exact .inl rfl | exact .inr rfl | assumption) :
    SS G X W (.AugAssign (.Name x pos') op e pos) (sAug i f m) := by
  refine ss_of (ps_aug hN hi hx he ho hf) fun σ H Dn ρ σs S rl re p => ?_
  unfold sAug at p
  cases q : σs[i]? with
  | none => rw [q] at p; exact p.elim
  | some o =>
    cases o with
    | none => rw [q] at p; exact p.elim
    | some d =>
      obtain ⟨v, h1, h2⟩ := re.get i d q
      refine ⟨v, h1, ρ, σs, S, rl, re, ?_⟩
      rw [q] at p
      cases q1 : m σs S with
      | ok d1 S1 =>
        intro ρ1 H1 y l1 rl1 rv1
        simp only [q1, Res.bind_ok] at p
        refine h ρ1 S1 H1 d d1 v y _ (EW W σ) rl1 (h2.mono l1) rv1 ?_
        cases q2 : f d d1 S1 with
        | ok d2 S2 =>
          simp only [q2] at p
          exact fun ρ2 H2 z l2 rl2 rv2 => p ρ2 H2 _ (l1.trans l2) rl2 (((re.mono l1).mono l2).set i rv2)
        | exc z S2 =>
          simp only [q2] at p
          exact fun ρ2 H2 c dd l2 rl2 rx => p ρ2 H2 σ c dd (l1.trans l2) rl2 ((re.mono l1).mono l2) rx
        | bad => simp only [q2] at p; exact p
      | exc z S1 =>
        simp only [q1, Res.bind_exc] at p
        exact fun ρ1 H1 c dd l1 rl1 rx => p ρ1 H1 σ c dd l1 rl1 (re.mono l1) rx
      | bad => simp only [q1, Res.bind_bad] at p; exact p
theorem ss_while {c : Expr} {body : List Stmt} (n : Nat) (cc : Cc G X W) (hc : ST G X W c t) (hb : SSs G X W body k) : SS G X W (.While c body [] pos) (sWhile t k n) := by
  refine ss_of (ps_while cc.hp hc hb) fun σ H Dn ρ σs S rl re p => ?_
  refine ⟨fun m σ H => ∃ ρ σs S, Rl G ρ S H ∧ RE G ρ H σs σ ∧ PostS G ρ H (sWhile t k m σs S) Dn W, ⟨n, ρ, σs, S, rl, re, p⟩, ?_⟩
  rintro m σ H ⟨ρ, σs, S, rl, re, p⟩
  cases m with
  | zero => exact p.elim
  | succ m =>
    refine ⟨ρ, σs, S, rl, re, ?_⟩
    unfold sWhile at p
    cases q : t σs S with
    | exc x S1 =>
      simp only [q] at p
      exact fun ρ1 H1 c dd l1 rl1 rx => p ρ1 H1 σ c dd l1 rl1 (re.mono l1) rx
    | bad => simp only [q] at p; exact p
    | ok c1 S1 =>
      intro ρ1 H1 b l1 rl1 e
      subst e
      cases c1 with
      | false =>
        simp only [q] at p
        show if false = true then _ else _
        rw [if_neg Bool.false_ne_true]
        exact p ρ1 H1 σ l1 rl1 (re.mono l1)
      | true =>
        simp only [q] at p
        show if true = true then _ else _
        rw [if_pos rfl]
        refine ⟨fun σ' H' => ∃ ρ σs S, Rl G ρ S H' ∧ RE G ρ H' σs σ' ∧ PostS G ρ H' (sWhile t k m σs S) Dn W, fun σ' H' w => ⟨m, Nat.lt_succ_self m, w⟩, ρ1, σs, S1, rl1, re.mono l1, ?_⟩
        cases q2 : k σs S1 with
        | nx σ2 S2 => simp only [q2] at p; exact fun ρ2 H2 σ' l2 rl2 re2 => ⟨ρ2, σ2, S2, rl2, re2, PostS.le p (l1.trans l2)⟩
        | ct σ2 S2 => simp only [q2] at p; exact fun ρ2 H2 σ' l2 rl2 re2 => ⟨ρ2, σ2, S2, rl2, re2, PostS.le p (l1.trans l2)⟩
        | bk σ2 S2 => simp only [q2] at p; exact fun ρ2 H2 σ' l2 rl2 re2 => p ρ2 H2 σ' (l1.trans l2) rl2 re2
        | rt d S2 => simp only [q2] at p; exact fun ρ2 H2 v l2 rl2 re2 => p ρ2 H2 v (l1.trans l2) rl2 re2
        | exc x σ2 S2 => simp only [q2] at p; exact fun ρ2 H2 σ' c dd l2 rl2 re2 rx => p ρ2 H2 σ' c dd (l1.trans l2) rl2 re2 rx
        | bad => simp only [q2] at p; exact p
/-- what is locked stays -/
def Fz (H H' : Hp) : Prop := ∀ a o u, H a = some (.frz o u) → H' a = some (.frz o u)
/-- an iterator of HandS and a source -/
def JR (G : Gx) (ρ0 : Wd) (H0 : Hp) (src : Src) (J : It) : Prop := ∀ ρ S H, Mv G ρ0 H0 ρ H → Fz H0 H → Rl G ρ S H → ∀ i,
  (∀ d, src i S = some (some d) → J.go i H ∧ ∀ x H', J.yld i H x H' → Le G ρ H ρ H' ∧ Rl G ρ S H' ∧ RV G ρ H' d x) ∧ (src i S = some none → J.stop i H)
abbrev PostI (G : Gx) := PostR (α := Src) (β := It) G (JR G)
def tmi (G : Gx) (W : WX) (m : MI) : TI := fun σ H R => ∃ ρ σs S, Rl G ρ S H ∧ RE G ρ H σs σ ∧ PostI G ρ H (m σs S) R (fun c d H' => W c d σ H')
abbrev SI (G : Gx) (X : Cx) (W : WX) (tg iter : Expr) (m : MI) : Prop := PI X tg iter (tmi G W m)
theorem JR.le {ρ0 ρ1 : Wd} {H0 H1 : Hp} {src : Src} {J : It} (h : JR G ρ0 H0 src J) (l : Le G ρ0 H0 ρ1 H1) : JR G ρ1 H1 src J := fun ρ S H l' kz rl i => h ρ S H (l.mv.trans l') (fun a o u q => kz a o u (l.kz a o u q)) rl i
theorem PI.weak {tg iter : Expr} {w w' : TI} (h : PI X tg iter w) (i : ∀ σ H R, w' σ H R → w σ H R) : PI X tg iter w' := ⟨fun pins s σ H R I q => h.run pins s σ H R I (i _ _ _ q)⟩
theorem ss_for {tg iter : Expr} {body : List Stmt} {mi : MI} {g : MG} (n : Nat) (cc : Cc G X W) (hi : SI G X W tg iter mi) (hg : SG G X tg g) (hb : SSs G X W body k) (hs : ∀ x, foldedSetIterable iter X.env x = pure x := by intro _; rfl) :
    SS G X W (.For tg iter body [] pos) (sFor mi g k n) := by
  refine ss_of (ps_for cc.hp cc.calm hi hg hb hs) fun σ H Dn ρ σs S rl re p => ?_
  refine ⟨ρ, σs, S, rl, re, ?_⟩
  unfold sFor at p
  cases q : mi σs S with
  | exc x S1 =>
    simp only [q] at p
    exact fun ρ1 H1 c dd l1 rl1 rx => p ρ1 H1 σ c dd l1 rl1 (re.mono l1) rx
  | bad => simp only [q] at p; exact p
  | ok src S1 =>
    simp only [q] at p
    intro ρ1 H1 J l1 rl1 jr
    refine ⟨fun i m σ H => ∃ ρ σs S, Le G ρ1 H1 ρ H ∧ Rl G ρ S H ∧ RE G ρ H σs σ ∧ PostS G ρ H (forGo src g k m i σs S) Dn W, ⟨n, ρ1, σs, S1, Le.refl, rl1, re.mono l1, PostS.le p l1⟩, ?_⟩
    rintro i m σ H ⟨ρ, σs, S, l0, rl, re, p⟩
    cases m with
    | zero => exact p.elim
    | succ m =>
      unfold forGo at p
      obtain ⟨j1, j2⟩ := jr ρ S H l0.mv l0.kz rl i
      cases q : src i S with
      | none => simp only [q] at p; exact p.elim
      | some o =>
        cases o with
        | none => simp only [q] at p; exact .inl ⟨j2 q, p ρ H σ Le.refl rl re⟩
        | some d =>
          simp only [q] at p
          obtain ⟨go, yl⟩ := j1 d q
          refine .inr ⟨go, fun σ' H' => ∃ ρ σs S, Le G ρ1 H1 ρ H' ∧ Rl G ρ S H' ∧ RE G ρ H' σs σ' ∧ PostS G ρ H' (forGo src g k m (i + 1) σs S) Dn W, fun σ' H' w => ⟨m, Nat.lt_succ_self m, w⟩, fun x H' y => ?_⟩
          obtain ⟨l2, rl2, rv2⟩ := yl x H' y
          refine ⟨ρ, σs, S, d, rl2, re.mono l2, rv2, ?_⟩
          cases q1 : g d σs S with
          | exc x S2 => simp only [q1] at p; exact p
          | bad => simp only [q1] at p; exact p
          | ok σ2 S2 =>
            simp only [q1] at p
            intro ρ3 H3 σ3 l3 rl3 re3
            refine ⟨ρ3, σ2, S2, rl3, re3, ?_⟩
            have l03 : Le G ρ H ρ3 H3 := l2.trans l3
            cases q2 : k σ2 S2 with
            | nx σ4 S4 => simp only [q2] at p; exact fun ρ4 H4 σ' l4 rl4 re4 => ⟨ρ4, σ4, S4, l0.trans (l03.trans l4), rl4, re4, PostS.le p (l03.trans l4)⟩
            | ct σ4 S4 => simp only [q2] at p; exact fun ρ4 H4 σ' l4 rl4 re4 => ⟨ρ4, σ4, S4, l0.trans (l03.trans l4), rl4, re4, PostS.le p (l03.trans l4)⟩
            | bk σ4 S4 => simp only [q2] at p; exact fun ρ4 H4 σ' l4 rl4 re4 => p ρ4 H4 σ' (l03.trans l4) rl4 re4
            | rt d S4 => simp only [q2] at p; exact fun ρ4 H4 v l4 rl4 re4 => p ρ4 H4 v (l03.trans l4) rl4 re4
            | exc x σ4 S4 => simp only [q2] at p; exact fun ρ4 H4 σ' c dd l4 rl4 re4 rx => p ρ4 H4 σ' c dd (l03.trans l4) rl4 re4 rx
            | bad => simp only [q2] at p; exact p
end
end L2.Mi

set_option Elab.async false
set_option linter.all false
set_option maxRecDepth 100000
set_option maxHeartbeats 4000000
namespace L2.Mi
open PySem PySem.Spec PyProof.Rows

abbrev lim : Nat := 1000000
theorem lim_le {n : Nat} (h : n ≤ lim) : n ≤ sizeLine := by rw [sizeLine_eq]; unfold lim at h; omega
theorem lim_lt {n : Nat} (h : n < lim) : n < sizeLine := by rw [sizeLine_eq]; unfold lim at h; omega

def tupD : D → Option (List D)
  | .tup ds => some ds
  | .kt ds => some ds
  | _ => none
section
variable {G : Gx} {X : Cx} {W : WX} {ρ : Wd} {S : Store} {H : Hp} {d : D} {x : V} {ds : List D}
theorem sqT_written {K : PySem.W.Frag} {a : Addr} {xs : List V} (h : SqT K (fun _ => none) a xs) : SqT K H a xs := by
  rcases h with (h | ⟨o, h⟩) | h
  · cases h
  · cases h
  · exact .inr h
theorem tupD_rel (rv : RV G ρ H d x) (h : tupD d = some ds) : ∃ a xs, x = .ref a ∧ SqT G.K H a xs ∧ RVs G ρ H ds xs := by
  cases rv with
  | tup ht hr => cases h; exact ⟨_, _, rfl, SqT.of ht, hr⟩
  | kt ht hr => cases h; exact ⟨_, _, rfl, sqT_written ht, hr⟩
  | _ => cases h
theorem listAt_rel (rl : Rl G ρ S H) (rv : RV G ρ H d x) (h : listAt S d = some ds) : ∃ a xs, x = .ref a ∧ SqL G.K H a xs ∧ RVs G ρ H ds xs := by
  cases rv with
  | lv n ht hr => cases h; exact ⟨_, _, rfl, SqL.of ht, hr⟩
  | fl ht hr => cases h; exact ⟨_, _, rfl, ht.sq, hr⟩
  | @ref i a hi =>
    unfold listAt at h
    cases q : S.get i with
    | none => simp only [q] at h; cases h
    | some o =>
      obtain ⟨u, hu, ro⟩ := rl.at hi q
      cases ro with
      | lst r => simp only [q] at h; cases h; exact ⟨a, _, rfl, SqL.of hu, r⟩
      | lck r =>
        cases r with
        | lst r => simp only [q] at h; cases h; exact ⟨a, _, rfl, .inl (.inr ⟨_, hu⟩), r⟩
        | _ => simp only [q] at h; cases h
      | _ => simp only [q] at h; cases h
  | _ => cases h
theorem RVs.atI {ds : List D} {xs : List V} {i : Int} {d : D} (r : RVs G ρ H ds xs) (h : L2.atI ds i = some d) : ∃ v, L2.atI xs i = some v ∧ RV G ρ H d v := by
  unfold L2.atI at h ⊢
  rw [← r.length]
  cases q : ixN ds.length i with
  | none => rw [q] at h; cases h
  | some j =>
    rw [q] at h
    exact RVs.get r h
end

def intOp (c : Int → Int → Bool) (g : Int → Int → D) : D → D → Store → Res D := fun x y S => match x, y with
  | .int i, .int j => if c i j then .ok (g i j) S else .bad
  | _, _ => .bad
def mulOk (i j : Int) : Bool := (decide (-(2 ^ 64) < i) && decide (i < 2 ^ 64)) || (decide (-(2 ^ 64) < j) && decide (j < 2 ^ 64)) || decide (i.natAbs.log2 + j.natAbs.log2 < 1000000)
def divOk (j : Int) : Bool := decide (0 < j) && decide (j.natAbs.log2 < 9000)
def powOk (i j : Int) : Bool := decide (0 ≤ j) && decide (j ≤ 1000000) && decide (i.natAbs < 2 ^ 64)
section
variable {G : Gx} {X : Cx} {W : WX}
theorem intOp_go {c : Int → Int → Bool} {g : Int → Int → D} {ρ : Wd} {S : Store} {H : Hp} {d1 d2 : D} {x y : V} {Q : VK} {E : XK} (r1 : RV G ρ H d1 x) (r2 : RV G ρ H d2 y) (p : Post G ρ H (intOp c g d1 d2 S) Q E) :
    ∃ i j, x = .int i ∧ y = .int j ∧ c i j = true ∧ Post G ρ H (.ok (g i j) S) Q E := by
  cases r1 with
  | int i =>
    cases r2 with
    | int j =>
      unfold intOp at p
      by_cases h : c i j = true
      · simp only [h, if_true] at p
        exact ⟨i, j, rfl, rfl, h, p⟩
      · simp only [h] at p
        exact False.elim p
    | _ => exact False.elim p
  | _ => exact False.elim p
theorem ops_int {F : Value → Value → Sem Value} {c : Int → Int → Bool} {C : Int → Int → Prop} {g : Int → Int → Int} (ho : OpR X F (rI C fun i j => .int (g i j))) (hc : ∀ i j, c i j = true → C i j) : OpS G X W F (intOp c fun i j => .int (g i j)) :=
  OpS.of ho fun ρ S H d1 d2 x y Q E rl r1 r2 p => by
    obtain ⟨i, j, h1, h2, h3, p⟩ := intOp_go r1 r2 p
    exact ⟨i, j, h1, h2, hc i j h3, post_ok p rl (.int _)⟩
theorem ops_cmp0 {F : Value → Value → Sem Value} {g : Int → Int → Bool} (ho : OpR X F (rI0 fun i j => .bl (g i j))) : OpS G X W F (intOp (fun _ _ => true) fun i j => .bl (g i j)) :=
  OpS.of ho fun ρ S H d1 d2 x y Q E rl r1 r2 p => by
    obtain ⟨i, j, h1, h2, h3, p⟩ := intOp_go r1 r2 p
    exact ⟨i, j, h1, h2, post_ok p rl (.bl _)⟩
end
def divI : D → D → Store → Res D := intOp (fun _ j => divOk j) fun i j => .int (i / j)
def modI : D → D → Store → Res D := intOp (fun _ j => decide (0 < j)) fun i j => .int (i % j)
def powI : D → D → Store → Res D := intOp powOk fun i j => .int (i ^ j.toNat)
def ltI : D → D → Store → Res D := intOp (fun _ _ => true) fun i j => .bl (decide (i < j))
def gtI : D → D → Store → Res D := intOp (fun _ _ => true) fun i j => .bl (decide (j < i))
def geI : D → D → Store → Res D := intOp (fun _ _ => true) fun i j => .bl (decide (j ≤ i))
def noOwn : D → D → Store → Res D := fun _ _ _ => .bad
/-- a + b -/
def addF (own : D → D → Store → Res D) : D → D → Store → Res D := fun x y S => match x, y with
  | .int i, .int j => .ok (.int (i + j)) S
  | .str a, .str b => if a.length + b.length ≤ lim then .ok (.str (a ++ b)) S else .bad
  | .tup a, .tup b => if a.length + b.length ≤ lim then .ok (.tup (a ++ b)) S else .bad
  | .lv a, .lv b => if a.length + b.length ≤ lim then .ok (.lv (a ++ b)) S else .bad
  | .ref a, _ => own (.ref a) y S
  | _, _ => .bad
def subF (own : D → D → Store → Res D) : D → D → Store → Res D := fun x y S => match x, y with
  | .int i, .int j => .ok (.int (i - j)) S
  | .ref a, _ => own (.ref a) y S
  | _, _ => .bad
/-- a * b -/
def mulF (own : D → D → Store → Res D) : D → D → Store → Res D := fun x y S => match x, y with
  | .int i, .int j => if mulOk i j then .ok (.int (i * j)) S else .bad
  | .lv a, .int k => if decide (0 ≤ k) && decide (k ≤ 1000) && decide (a.length ≤ 1000) then .ok (.lv (List.replicate k.toNat a).flatten) S else .bad
  | .ref a, _ => own (.ref a) y S
  | _, _ => .bad
section
variable {G : Gx} {X : Cx} {W : WX}
theorem noOwn_ok {F : Value → Value → Sem Value} : OpS G X W F noOwn := fun _ _ _ _ _ _ _ _ _ _ _ _ _ _ _ _ _ _ _ p => p.elim
theorem ops_mod : OpS G X W (binaryOp .Mod) modI := ops_int op_mod fun i j h => by simpa using h
theorem ops_div : OpS G X W (binaryOp .FloorDiv) divI := ops_int op_fdivW fun i j h => by
  unfold divOk at h
  simp only [Bool.and_eq_true, decide_eq_true_eq] at h
  exact h
theorem ops_pow : OpS G X W (binaryOp .Pow) powI := ops_int op_pow fun i j h => by
  unfold powOk at h
  simp only [Bool.and_eq_true, decide_eq_true_eq] at h
  exact ⟨h.1.1, h.1.2, h.2⟩
theorem ops_lt : OpS G X W (compareOp .Lt) ltI := ops_cmp0 op_lt
theorem ops_gt : OpS G X W (compareOp .Gt) gtI := ops_cmp0 op_gt
theorem ops_ge : OpS G X W (compareOp .GtE) geI := ops_cmp0 op_ge
theorem str_append (a b : List Nat) : (⟨a.toArray⟩ : Str) ++ ⟨b.toArray⟩ = ⟨(a ++ b).toArray⟩ := by
  show Str.mk (a.toArray ++ b.toArray) = _
  simp
theorem str_len (a : List Nat) : (⟨a.toArray⟩ : Str).length = a.length := by
  show a.toArray.size = _
  simp
theorem ops_add {own : D → D → Store → Res D} (cc : Cc G X W) (ho : OpS G X W (binaryOp .Add) own) : OpS G X W (binaryOp .Add) (addF own) := by
  intro pins s σ H x y v u Q ρ S d1 d2 I rx ry rl r1 r2 p
  cases r1 with
  | int i =>
    cases r2 with
    | int j => exact op_add pins s σ H _ _ v u Q I rx ry ⟨i, j, rfl, rfl, post_ok p rl (.int _)⟩
    | _ => exact p.elim
  | str a =>
    cases r2 with
    | str b =>
      unfold addF at p
      by_cases hl : a.length + b.length ≤ lim
      · simp only [hl, if_true] at p
        refine op_add_str pins s σ H _ _ v u Q I rx ry ⟨_, _, rfl, rfl, by rw [str_len, str_len]; exact lim_le hl, ?_⟩
        rw [str_append]
        exact post_ok p rl (.str _)
      · simp only [hl, if_false] at p
        exact p.elim
    | _ => exact p.elim
  | @tup as a xs ha hr =>
    cases r2 with
    | @tup bs b ys hb hs =>
      unfold addF at p
      by_cases hl : as.length + bs.length ≤ lim
      · simp only [hl, if_true] at p
        refine op_catA pins s σ H _ _ v u Q I rx ry ⟨a, b, xs, ys, rfl, rfl, SqT.of ha, SqT.of hb, by rw [← hr.length, ← hs.length]; exact lim_le hl, fun e => ?_, fun _ e => ?_, fun _ _ q hq => ?_⟩
        · subst e
          cases hr
          exact post_ok p rl (.tup hb hs)
        · subst e
          cases hs
          exact post_ok p rl (.tup ha (by rw [List.append_nil]; exact hr))
        · exact post_new p rl hq (.tup upd_same ((hr.append hs).mono (Le.new hq)))
      · simp only [hl, if_false] at p
        exact p.elim
    | _ => exact p.elim
  | @lv as a xs na ha hr =>
    cases r2 with
    | @lv bs b ys nb hb hs =>
      unfold addF at p
      by_cases hl : as.length + bs.length ≤ lim
      · simp only [hl, if_true] at p
        refine op_cat pins s σ H _ _ v u Q I rx ry ⟨a, b, xs, ys, rfl, rfl, ha, hb, by rw [← hr.length, ← hs.length]; exact lim_le hl, fun q hq => ?_⟩
        exact post_new p rl hq (.lv (rl.no hq) upd_same ((hr.append hs).mono (Le.new hq)))
      · simp only [hl, if_false] at p
        exact p.elim
    | _ => exact p.elim
  | ref h => exact ho pins s σ H _ _ v u Q ρ S _ d2 I rx ry rl (.ref h) r2 p
  | _ => exact p.elim
theorem ops_sub {own : D → D → Store → Res D} (ho : OpS G X W (binaryOp .Sub) own) : OpS G X W (binaryOp .Sub) (subF own) := by
  intro pins s σ H x y v u Q ρ S d1 d2 I rx ry rl r1 r2 p
  cases r1 with
  | int i =>
    cases r2 with
    | int j => exact op_sub pins s σ H _ _ v u Q I rx ry ⟨i, j, rfl, rfl, post_ok p rl (.int _)⟩
    | _ => exact p.elim
  | ref h => exact ho pins s σ H _ _ v u Q ρ S _ d2 I rx ry rl (.ref h) r2 p
  | _ => exact p.elim
theorem ops_mul {own : D → D → Store → Res D} (ho : OpS G X W (binaryOp .Mult) own) : OpS G X W (binaryOp .Mult) (mulF own) := by
  intro pins s σ H x y v u Q ρ S d1 d2 I rx ry rl r1 r2 p
  cases r1 with
  | int i =>
    cases r2 with
    | int j =>
      unfold mulF at p
      by_cases h : mulOk i j = true
      · simp only [h, if_true] at p
        have h' := h
        unfold mulOk at h'
        simp only [Bool.or_eq_true, Bool.and_eq_true, decide_eq_true_eq] at h'
        rcases h' with h' | h'
        · exact op_mul pins s σ H _ _ v u Q I rx ry ⟨i, j, rfl, rfl, h', post_ok p rl (.int _)⟩
        · exact op_mulW pins s σ H _ _ v u Q I rx ry ⟨i, j, rfl, rfl, h', post_ok p rl (.int _)⟩
      · simp only [h] at p
        exact p.elim
    | _ => exact p.elim
  | @lv as a xs na ha hr =>
    cases r2 with
    | int k =>
      unfold mulF at p
      by_cases h : (decide (0 ≤ k) && decide (k ≤ 1000) && decide (as.length ≤ 1000)) = true
      · simp only [h, if_true] at p
        simp only [Bool.and_eq_true, decide_eq_true_eq] at h
        have hl := hr.length
        have hz : xs.length * k.toNat ≤ sizeLine := by
          rw [sizeLine_eq]
          have : xs.length * k.toNat ≤ 1000 * 1000 := Nat.mul_le_mul (by omega) (by omega)
          omega
        refine op_rep pins s σ H _ _ v u Q I rx ry ⟨a, k, xs, rfl, rfl, ha, by omega, by omega, hz, fun q hq => ?_⟩
        refine post_new p rl hq (.lv (rl.no hq) upd_same ?_)
        have rep : ∀ n, RVs G ρ H (List.replicate n as).flatten (List.replicate n xs).flatten := fun n => by
          induction n with
          | zero => exact .nil
          | succ n ih => rw [List.replicate_succ, List.replicate_succ]; exact hr.append ih
        exact (rep k.toNat).mono (Le.new hq)
      · simp only [h] at p
        exact p.elim
    | _ => exact p.elim
  | ref h => exact ho pins s σ H _ _ v u Q ρ S _ d2 I rx ry rl (.ref h) r2 p
  | _ => exact p.elim
end

def mapO {α β : Type} (f : α → Option β) : List α → Option (List β)
  | [] => some []
  | a :: as => match f a, mapO f as with
    | some b, some bs => some (b :: bs)
    | _, _ => none
def dat : Nat → Store → D → Option PyData
  | _, _, .non => some .none
  | _, _, .bl b => some (.bool b)
  | _, _, .int i => some (.int i)
  | _, _, .str x => some (.str ⟨x.toArray⟩)
  | n + 1, S, .tup ds => (mapO (dat n S) ds).map .tuple
  | n + 1, S, .kt ds => (mapO (dat n S) ds).map .tuple
  | n + 1, S, .lv ds => (mapO (dat n S) ds).map .list
  | n + 1, S, .ref a => (match listAt S (.ref a) with | some ds => (mapO (dat n S) ds).map .list | none => none)
  | _, _, _ => none
section
variable {G : Gx} {X : Cx} {W : WX} {ρ : Wd} {S : Store} {H : Hp}
theorem mapO_rel {f : D → Option PyData} (h : ∀ d x e, RV G ρ H d x → f d = some e → Dp G.K H x e) : ∀ {ds : List D} {xs : List V} {es : List PyData}, RVs G ρ H ds xs → mapO f ds = some es → DpAll G.K H xs es
  | _, _, _, .nil, e => by cases e; exact .nil
  | d :: ds, x :: xs, es, .cons r rs, e => by
    unfold mapO at e
    cases q1 : f d with
    | none => simp only [q1] at e; cases e
    | some b =>
      cases q2 : mapO f ds with
      | none => simp only [q1, q2] at e; cases e
      | some bs =>
        simp only [q1, q2] at e
        cases e
        exact .cons (h d x b r q1) (mapO_rel h rs q2)
theorem dat_rel (rl : Rl G ρ S H) : ∀ (n : Nat) (d : D) (x : V) (e : PyData), RV G ρ H d x → dat n S d = some e → Dp G.K H x e := by
  intro n
  induction n with
  | zero =>
    intro d x e r h
    cases r with
    | non => cases h; exact .non
    | bl b => cases h; exact .bl b
    | int i => cases h; exact .int i
    | str x => cases h; exact .str _
    | _ => cases h
  | succ n ih =>
    intro d x e r h
    have seqT : ∀ {ds : List D} {a : Addr} {xs : List V}, SqT G.K H a xs → RVs G ρ H ds xs → (mapO (dat n S) ds).map PyData.tuple = some e → Dp G.K H (.ref a) e := fun {ds a xs} ht hr h => by
      cases q : mapO (dat n S) ds with
      | none => rw [q] at h; cases h
      | some es => rw [q] at h; cases h; exact .tup ht (mapO_rel ih hr q)
    have seqL : ∀ {ds : List D} {a : Addr} {xs : List V}, SqL G.K H a xs → RVs G ρ H ds xs → (mapO (dat n S) ds).map PyData.list = some e → Dp G.K H (.ref a) e := fun {ds a xs} ht hr h => by
      cases q : mapO (dat n S) ds with
      | none => rw [q] at h; cases h
      | some es => rw [q] at h; cases h; exact .lst ht (mapO_rel ih hr q)
    cases r with
    | non => cases h; exact .non
    | bl b => cases h; exact .bl b
    | int i => cases h; exact .int i
    | str x => cases h; exact .str _
    | ty n => cases h
    | tup ht hr => exact seqT (SqT.of ht) hr h
    | kt ht hr => exact seqT (sqT_written ht) hr h
    | lv hn ht hr => exact seqL (SqL.of ht) hr h
    | @ref i a hi =>
      unfold dat at h
      cases q : listAt S (.ref i) with
      | none => simp only [q] at h; cases h
      | some ds =>
        simp only [q] at h
        obtain ⟨b, xs, e1, hq, hr⟩ := listAt_rel rl (.ref hi) q
        cases e1
        exact seqL hq hr h
    | _ => cases h
end
/-- a == b, a != b of data; own objects by own -/
def eqF (own : D → D → Store → Res D) : D → D → Store → Res D := fun x y S => match dat 64 S x, dat 64 S y with
  | some a, some b => if SeqAt.shaped a && SeqAt.shaped b then .ok (.bl (PyData.eqv a b)) S else .bad
  | _, _ => own x y S
def neF (own : D → D → Store → Res D) : D → D → Store → Res D := fun x y S => match dat 64 S x, dat 64 S y with
  | some a, some b => if SeqAt.shaped a && SeqAt.shaped b then .ok (.bl (!PyData.eqv a b)) S else .bad
  | _, _ => own x y S
section
variable {G : Gx} {X : Cx} {W : WX}
theorem ops_eq {own : D → D → Store → Res D} (cc : Cc G X W) (hu : X.A.units + 64 < cLine) (ho : OpS G X W (compareOp .Eq) own) : OpS G X W (compareOp .Eq) (eqF own) := by
  intro pins s σ H x y v u Q ρ S d1 d2 I rx ry rl r1 r2 p
  unfold eqF at p
  cases q1 : dat 64 S d1 with
  | none => simp only [q1] at p; exact ho pins s σ H x y v u Q ρ S d1 d2 I rx ry rl r1 r2 p
  | some a =>
    cases q2 : dat 64 S d2 with
    | none => simp only [q1, q2] at p; exact ho pins s σ H x y v u Q ρ S d1 d2 I rx ry rl r1 r2 p
    | some b =>
      simp only [q1, q2] at p
      by_cases h : (SeqAt.shaped a && SeqAt.shaped b) = true
      · simp only [h, if_true] at p
        rw [Bool.and_eq_true] at h
        refine op_eqD hu pins s σ H x y v u Q I rx ry ⟨a, b, ?_, ?_, h.1, h.2, post_ok p rl (.bl _)⟩
        · rw [cc.k]; exact dat_rel rl 64 d1 x a r1 q1
        · rw [cc.k]; exact dat_rel rl 64 d2 y b r2 q2
      · simp only [h] at p
        exact p.elim
theorem ops_ne {own : D → D → Store → Res D} (cc : Cc G X W) (hu : X.A.units + 64 < cLine) (ho : OpS G X W (compareOp .NotEq) own) : OpS G X W (compareOp .NotEq) (neF own) := by
  intro pins s σ H x y v u Q ρ S d1 d2 I rx ry rl r1 r2 p
  unfold neF at p
  cases q1 : dat 64 S d1 with
  | none => simp only [q1] at p; exact ho pins s σ H x y v u Q ρ S d1 d2 I rx ry rl r1 r2 p
  | some a =>
    cases q2 : dat 64 S d2 with
    | none => simp only [q1, q2] at p; exact ho pins s σ H x y v u Q ρ S d1 d2 I rx ry rl r1 r2 p
    | some b =>
      simp only [q1, q2] at p
      by_cases h : (SeqAt.shaped a && SeqAt.shaped b) = true
      · simp only [h, if_true] at p
        rw [Bool.and_eq_true] at h
        refine op_neD hu pins s σ H x y v u Q I rx ry ⟨a, b, ?_, ?_, h.1, h.2, post_ok p rl (.bl _)⟩
        · rw [cc.k]; exact dat_rel rl 64 d1 x a r1 q1
        · rw [cc.k]; exact dat_rel rl 64 d2 y b r2 q2
      · simp only [h] at p
        exact p.elim
end
end L2.Mi

set_option Elab.async false
set_option linter.all false
set_option maxRecDepth 100000
set_option maxHeartbeats 4000000
namespace L2.Mi
open PySem PySem.Spec PyProof.Rows

def IxS (G : Gx) (X : Cx) (W : WX) (f : D → D → Store → Res D) : Prop :=
  ∀ (value slice : Expr) (pins : List (Addr × Obj)) (s : Shared) (σ : St) (H : Hp) (x y : V) (v u : Value) (Q : VK) (ρ : Wd) (S : Store) (d1 d2 : D), Inv X pins σ H s → RelV x v → RelV y u → Rl G ρ S H → RV G ρ H d1 x → RV G ρ H d2 y →
    Post G ρ H (f d1 d2 S) Q (EW W σ) → subscripted slice false v u = operate [v, u] (getItem v u) → wpAny (model X.prog X.w) X.A (subscriptTail value slice v u) (EP X pins σ Q) X.xe s
/-- an item of a tuple, a list, a text -/
def itemF : D → D → Store → Res D := fun x y S => match y with
  | .int i => (match tupD x with
    | some ds => (match L2.atI ds i with | some d => .ok d S | none => .bad)
    | none => (match listAt S x with
      | some ds => (match L2.atI ds i with | some d => .ok d S | none => .bad)
      | none => (match x with
        | .str l => if l.length ≤ lim then (match L2.atI l i with | some c => .ok (.str [c]) S | none => .bad) else .bad
        | _ => .bad)))
  | _ => .bad
section
variable {G : Gx} {X : Cx} {W : WX} {a b e : Expr} {ma mb m : ME} {pos : Pos}
theorem IxS.of {f : D → D → Store → Res D} {r : R2} (ho : IxR X r) (h : ∀ ρ S H d1 d2 x y Q E, Rl G ρ S H → RV G ρ H d1 x → RV G ρ H d2 y → Post G ρ H (f d1 d2 S) Q E → r x y H Q) : IxS G X W f :=
  fun value slice pins s σ H x y v u Q ρ S d1 d2 I rx ry rl r1 r2 p hs => ho value slice pins s σ H x y v u Q I rx ry (h ρ S H d1 d2 x y Q _ rl r1 r2 p) hs
theorem se_ix {f : D → D → Store → Res D} (hr : IxS G X W f) (ha : SE G X W a ma) (hb : SE G X W b mb) (hs : PlainIx b := by exact fun _ _ => rfl) : SE G X W (.Subscript a b pos) (eBin f ma mb) :=
  ⟨fun pins s σ H Q I ⟨ρ, σs, S, rl, re, p⟩ => Subscript_ (ha.go I rl re p fun v s1 x H1 ρ1 S1 d I1 rx l1 rl1 re1 rv1 p1 => hb.go I1 rl1 re1 p1 fun u s2 y H2 ρ2 S2 e I2 ry l2 rl2 re2 rv2 p2 =>
    hr a b pins s2 σ H2 x y v u Q ρ2 S2 d e I2 rx ry rl2 (rv1.mono l2) rv2 p2 (hs _ _))⟩
theorem ixs_item (cc : Cc G X W) : IxS G X W itemF := by
  intro value slice pins s σ H x y v u Q ρ S d1 d2 I rx ry rl r1 r2 p hs
  cases r2 with
  | int i =>
    unfold itemF at p
    cases q1 : tupD d1 with
    | some ds =>
      obtain ⟨a, xs, rfl, ht, hr⟩ := tupD_rel r1 q1
      cases q2 : L2.atI ds i with
      | none => simp only [q1, q2] at p; exact p.elim
      | some d =>
        simp only [q1, q2] at p
        obtain ⟨z, h1, h2⟩ := hr.atI q2
        exact ix_tup value slice pins s σ H _ _ v u Q I rx ry ⟨a, xs, i, z, rfl, rfl, by rw [cc.k]; exact ht, h1, post_ok p rl h2⟩ hs
    | none =>
      cases q3 : listAt S d1 with
      | some ds =>
        obtain ⟨a, xs, rfl, ht, hr⟩ := listAt_rel rl r1 q3
        cases q2 : L2.atI ds i with
        | none => simp only [q1, q2, q3] at p; exact p.elim
        | some d =>
          simp only [q1, q2, q3] at p
          obtain ⟨z, h1, h2⟩ := hr.atI q2
          exact ix_list value slice pins s σ H _ _ v u Q I rx ry ⟨a, xs, i, z, rfl, rfl, by rw [cc.k]; exact ht, h1, post_ok p rl h2⟩ hs
      | none =>
        cases r1 with
        | str l =>
          simp only [q1, q3] at p
          by_cases hl : l.length ≤ lim
          · simp only [hl, if_true] at p
            cases q2 : L2.atI l i with
            | none => simp only [q2] at p; exact p.elim
            | some c =>
              simp only [q2] at p
              refine ix_str value slice pins s σ H _ _ v u Q I rx ry ⟨⟨l.toArray⟩, i, c, rfl, rfl, by rw [str_len]; exact lim_le hl, ?_, post_ok p rl (.str [c])⟩ hs
              simpa using q2
          · simp only [hl, if_false] at p
            exact p.elim
        | _ => simp only [q1, q3] at p; exact p.elim
  | _ => exact p.elim
end

abbrev MO := En → Store → Res (Option Int)
def oSome (m : ME) : MO := fun σ S => (m σ S).bind fun d S1 => match d with | .int i => .ok (some i) S1 | _ => .bad
def tmo (G : Gx) (W : WX) (m : MO) : TO := fun σ H Q => ∃ ρ σs S, Rl G ρ S H ∧ RE G ρ H σs σ ∧ PostR (α := Option Int) (β := Option Int) G (fun _ _ a b => a = b) ρ H (m σs S) Q (fun c d H' => W c d σ H')
abbrev SO (G : Gx) (X : Cx) (W : WX) (e : Option Expr) (m : MO) : Prop := PO X e (tmo G W m)
def cutD {α : Type} (xs : List α) (lo hi : Option Int) : List α := (xs.drop (HT.sIx xs.length 0 lo)).take (HT.sIx xs.length xs.length hi - HT.sIx xs.length 0 lo)
def sliceF (x : D) (lo hi : Option Int) (S : Store) : Res D := match x with
  | .tup ds => .ok (.tup (cutD ds lo hi)) S
  | .str l => if l.length ≤ lim then .ok (.str (cutD l lo hi)) S else .bad
  | d => (match listAt S d with | some ds => .ok (.lv (cutD ds lo hi)) S | none => .bad)
def eSlice (m : ME) (lo hi : MO) : ME := fun σ S => (m σ S).bind fun x S1 => (lo σ S1).bind fun l S2 => (hi σ S2).bind fun h S3 => sliceF x l h S3
section
variable {G : Gx} {X : Cx} {W : WX} {a b e : Expr} {ma mb m : ME} {pos : Pos}
theorem so_some (h : SE G X W e m) : SO G X W (some e) (oSome m) := by
  refine ⟨fun pins s σ H Q I ⟨ρ, σs, S, rl, re, p⟩ => (po_some h).run pins s σ H Q I ?_⟩
  refine ⟨ρ, σs, S, rl, re, p.bind (R := RV G) fun ρ1 H1 S1 d v l1 rl1 rv1 p1 => ?_⟩
  cases rv1 with
  | int i => exact ⟨i, rfl, p1 ρ1 H1 (some i) Le.refl rl1 rfl⟩
  | _ => exact False.elim p1
theorem cut_rel {ρ : Wd} {H : Hp} {ds : List D} {xs : List V} (r : RVs G ρ H ds xs) (lo hi : Option Int) : RVs G ρ H (cutD ds lo hi) (cutV xs lo hi) := by
  have dr : ∀ (n : Nat) {ds : List D} {xs : List V}, RVs G ρ H ds xs → RVs G ρ H (ds.drop n) (xs.drop n) := by
    intro n
    induction n with
    | zero => exact fun r => r
    | succ n ih => intro ds xs r; cases r with | nil => exact .nil | cons _ t => exact ih t
  have tk : ∀ (n : Nat) {ds : List D} {xs : List V}, RVs G ρ H ds xs → RVs G ρ H (ds.take n) (xs.take n) := by
    intro n
    induction n with
    | zero => exact fun r => .nil
    | succ n ih => intro ds xs r; cases r with | nil => exact .nil | cons h t => exact .cons h (ih t)
  unfold cutD cutV
  rw [r.length]
  exact tk _ (dr _ r)
theorem cut_str (l : List Nat) (lo hi : Option Int) : cutS ⟨l.toArray⟩ lo hi = ⟨(cutD l lo hi).toArray⟩ := by
  unfold cutS cutD
  simp [Str.length]
theorem whole_cut {α : Type} {xs : List α} {lo hi : Option Int} (h : HT.sIx xs.length 0 lo = 0 ∧ HT.sIx xs.length xs.length hi = xs.length) : cutD xs lo hi = xs := by
  unfold cutD
  rw [h.1, h.2]
  simp
theorem se_slice {lo hi : Option Expr} {ml mh : MO} {p2 : Pos} (cc : Cc G X W) (he : SE G X W e m) (hl : SO G X W lo ml) (hh : SO G X W hi mh) : SE G X W (.Subscript e (.Slice lo hi none p2) pos) (eSlice m ml mh) := by
  refine se_of (pe_slice ((sl_tupA (X := X)).or ((sl_str (X := X)).or (sl_list (X := X)))) he hl hh) fun σ H Q ρ σs S rl re p => ?_
  refine ⟨ρ, σs, S, rl, re, PostR.bind (R := RV G) p fun ρ1 H1 S1 d x l1 rl1 rv1 p1 => ?_⟩
  refine ⟨ρ1, σs, S1, rl1, re.mono l1, PostR.bind (R := fun _ _ a b => a = b) p1 fun ρ2 H2 S2 a1 a2 l2 rl2 e2 p2 => ?_⟩
  subst e2
  refine ⟨ρ2, σs, S2, rl2, (re.mono l1).mono l2, PostR.bind (R := fun _ _ a b => a = b) p2 fun ρ3 H3 S3 b1 b2 l3 rl3 e3 p3 => ?_⟩
  subst e3
  have rv3 := rv1.mono (l2.trans l3)
  have lists : ∀ {ds : List D}, listAt S3 d = some ds → Post G ρ3 H3 (.ok (.lv (cutD ds a1 b1)) S3) Q (EW W σ) → rSlL X.K x a1 b1 H3 Q := fun {ds} h p => by
    obtain ⟨a, xs, e, hq, hr⟩ := listAt_rel rl3 rv3 h
    exact ⟨a, xs, e, by rw [cc.k]; exact hq, fun q hq' => post_new p rl3 hq' (.lv (rl3.no hq') upd_same ((cut_rel hr a1 b1).mono (Le.new hq')))⟩
  cases rv3 with
  | @tup ds a xs ht hr =>
    refine .inl ⟨a, xs, rfl, SqT.of ht, fun hw => ?_, fun hw q hq => ?_⟩
    · have p3' : Post G ρ3 H3 (.ok (.tup (cutD ds a1 b1)) S3) Q (EW W σ) := p3
      rw [whole_cut (by rw [hr.length]; exact hw)] at p3'
      exact post_ok p3' rl3 (.tup ht hr)
    · exact post_new (S := S3) p3 rl3 hq (.tup upd_same ((cut_rel hr a1 b1).mono (Le.new hq)))
  | str l =>
    refine .inr (.inl ⟨_, rfl, ?_⟩)
    have p3' : Post G ρ3 H3 (if l.length ≤ lim then .ok (.str (cutD l a1 b1)) S3 else .bad) Q (EW W σ) := p3
    by_cases hl : l.length ≤ lim
    · rw [if_pos hl] at p3'
      refine ⟨by rw [str_len]; exact lim_le hl, ?_⟩
      rw [cut_str]
      exact post_ok p3' rl3 (.str _)
    · rw [if_neg hl] at p3'
      exact p3'.elim
  | lv n ht hr => exact .inr (.inr (lists rfl p3))
  | fl ht hr => exact .inr (.inr (lists rfl p3))
  | @ref i a hi =>
    refine .inr (.inr ?_)
    have p3' : Post G ρ3 H3 (match listAt S3 (.ref i) with | some ds => .ok (.lv (cutD ds a1 b1)) S3 | none => .bad) Q (EW W σ) := p3
    cases q : listAt S3 (.ref i) with
    | none => rw [q] at p3'; exact p3'.elim
    | some ds => rw [q] at p3'; exact lists q p3'
  | _ => exact False.elim p3
end
end L2.Mi

set_option Elab.async false
set_option linter.all false
set_option maxRecDepth 100000
set_option maxHeartbeats 4000000
namespace L2.Mi
open PySem PySem.Spec PyProof.Rows

def lenF (ds : List D) (S : Store) : Res D := match ds with
  | [.str l] => if l.length ≤ lim then .ok (.int l.length) S else .bad
  | [.tup xs] => .ok (.int xs.length) S
  | [.kt xs] => .ok (.int xs.length) S
  | [d] => (match listAt S d with | some xs => .ok (.int xs.length) S | none => .bad)
  | _ => .bad
def absF (ds : List D) (S : Store) : Res D := match ds with
  | [.int i] => .ok (.int (if i < 0 then -i else i)) S
  | _ => .bad
def max2F (ds : List D) (S : Store) : Res D := match ds with
  | [.int i, .int j] => .ok (.int (if j > i then j else i)) S
  | _ => .bad
def min2F (ds : List D) (S : Store) : Res D := match ds with
  | [.int i, .int j] => .ok (.int (if j < i then j else i)) S
  | _ => .bad
def intF (ds : List D) (S : Store) : Res D := match ds with
  | [.int i] => .ok (.int i) S
  | [.bl k] => .ok (.int (if k then 1 else 0)) S
  | _ => .bad
/-- a list of the items of a list or a tuple: one that is changed later, one that is not -/
def seqAt (S : Store) (d : D) : Option (List D) := match tupD d with | some ds => some ds | none => listAt S d
section
variable {G : Gx} {X : Cx} {W : WX}
theorem rvs1 {ρ : Wd} {H : Hp} {d : D} {xs : List V} (r : RVs G ρ H [d] xs) : ∃ x, xs = [x] ∧ RV G ρ H d x := by
  cases r with
  | cons h t => cases t; exact ⟨_, rfl, h⟩
theorem rvs2 {ρ : Wd} {H : Hp} {d e : D} {xs : List V} (r : RVs G ρ H [d, e] xs) : ∃ x y, xs = [x, y] ∧ RV G ρ H d x ∧ RV G ρ H e y := by
  cases r with
  | cons h t =>
    cases t with
    | cons h' t' => cases t'; exact ⟨_, _, rfl, h, h'⟩
theorem fns_len (cc : Cc G X W) : FnS G X W (.builtin "len") lenF := FnS.of call_len fun ρ S H ds xs Q E rl r p => by
  have seq : ∀ {d : D} {x : V} {ys : List D}, RV G ρ H d x → listAt S d = some ys → Post G ρ H (.ok (.int ys.length) S) Q E → ∃ x' n, [x] = [x'] ∧ LenV X.K x' H n ∧ Q (.int n) H := fun {d x ys} h q p => by
    obtain ⟨a, zs, rfl, hq, hr⟩ := listAt_rel rl h q
    refine ⟨_, zs.length, rfl, .inl ⟨zs, by rw [cc.k]; exact hq, rfl⟩, ?_⟩
    rw [← hr.length]
    exact post_ok p rl (.int _)
  match ds, r, p with
  | [], _, p => exact p.elim
  | _ :: _ :: _, _, p => exact (show False by unfold lenF at p; split at p <;> first | exact p | simp_all).elim
  | [d], r, p =>
    obtain ⟨x, rfl, h⟩ := rvs1 r
    cases h with
    | str l =>
      have p' : Post G ρ H (if l.length ≤ lim then .ok (.int l.length) S else .bad) Q E := p
      by_cases hl : l.length ≤ lim
      · rw [if_pos hl] at p'
        refine ⟨_, l.length, rfl, ⟨by rw [str_len]; exact lim_le hl, by rw [str_len]⟩, post_ok p' rl (.int _)⟩
      · rw [if_neg hl] at p'
        exact p'.elim
    | @tup ds a zs ht hr =>
      refine ⟨_, zs.length, rfl, .inr ⟨zs, SqT.of ht, rfl⟩, ?_⟩
      rw [← hr.length]
      exact post_ok (S := S) p rl (.int _)
    | @kt ds a zs ht hr =>
      refine ⟨_, zs.length, rfl, .inr ⟨zs, by rw [cc.k]; exact sqT_written ht, rfl⟩, ?_⟩
      rw [← hr.length]
      exact post_ok (S := S) p rl (.int _)
    | lv n ht hr => exact seq (.lv n ht hr) rfl p
    | fl ht hr => exact seq (.fl ht hr) rfl p
    | @ref i a hi =>
      have p' : Post G ρ H (match listAt S (.ref i) with | some ys => .ok (.int ys.length) S | none => .bad) Q E := p
      cases q : listAt S (.ref i) with
      | none => rw [q] at p'; exact p'.elim
      | some ys => rw [q] at p'; exact seq (.ref hi) q p'
    | _ => exact False.elim p
theorem fns_abs : FnS G X W (.builtin "abs") absF := FnS.of call_abs fun ρ S H ds xs Q E rl r p => by
  unfold absF at p
  split at p
  · obtain ⟨x, rfl, h⟩ := rvs1 r
    cases h
    exact ⟨_, rfl, post_ok p rl (.int _)⟩
  · exact p.elim
theorem fns_max2 (cc : Cc G X W) : FnS G X W (.builtin "max") max2F := FnS.of (call_max2 cc.calm) fun ρ S H ds xs Q E rl r p => by
  unfold max2F at p
  split at p
  · obtain ⟨x, y, rfl, h, h'⟩ := rvs2 r
    cases h
    cases h'
    exact ⟨_, _, rfl, post_ok p rl (.int _)⟩
  · exact p.elim
theorem fns_min2 (cc : Cc G X W) : FnS G X W (.builtin "min") min2F := FnS.of (call_min2 cc.calm) fun ρ S H ds xs Q E rl r p => by
  unfold min2F at p
  split at p
  · obtain ⟨x, y, rfl, h, h'⟩ := rvs2 r
    cases h
    cases h'
    exact ⟨_, _, rfl, post_ok p rl (.int _)⟩
  · exact p.elim
theorem fns_int : FnS G X W (.type "int") intF := FnS.of call_int1 fun ρ S H ds xs Q E rl r p => by
  unfold intF at p
  split at p
  · obtain ⟨x, rfl, h⟩ := rvs1 r
    cases h
    exact .inl ⟨_, rfl, post_ok p rl (.int _)⟩
  · obtain ⟨x, rfl, h⟩ := rvs1 r
    cases h
    exact .inr ⟨_, rfl, post_ok p rl (.int _)⟩
  · exact p.elim
theorem seqAt_rel {ρ : Wd} {S : Store} {H : Hp} {d : D} {x : V} {ds : List D} (rl : Rl G ρ S H) (rv : RV G ρ H d x) (h : seqAt S d = some ds) : ∃ a xs, x = .ref a ∧ (SqL G.K H a xs ∨ SqT G.K H a xs) ∧ RVs G ρ H ds xs := by
  unfold seqAt at h
  cases q : tupD d with
  | some es =>
    rw [q] at h
    cases h
    obtain ⟨a, xs, e, ht, hr⟩ := tupD_rel rv q
    exact ⟨a, xs, e, .inr ht, hr⟩
  | none =>
    rw [q] at h
    obtain ⟨a, xs, e, ht, hr⟩ := listAt_rel rl rv h
    exact ⟨a, xs, e, .inl ht, hr⟩
variable {e tg : Expr} {m : ME} {pos p : Pos}
theorem si_of {wi : TI} {mi : MI} {iter : Expr} (h : PI X tg iter wi) (i : ∀ σ H R ρ σs S, Rl G ρ S H → RE G ρ H σs σ → PostI G ρ H (mi σs S) R (EW W σ) → wi σ H R) : SI G X W tg iter mi :=
  PI.weak h fun σ H R ⟨ρ, σs, S, rl, re, p⟩ => i σ H R ρ σs S rl re p
theorem jr_list {ρ0 : Wd} {H0 : Hp} {d : D} {a : Addr} (rv : RV G ρ0 H0 d (.ref a)) : JR G ρ0 H0 (fun k S' => (listAt S' d).map fun ds => ds[k]?) (Itl G.K a) := by
  intro ρ S H l kz rl i
  refine ⟨fun e h => ?_, fun h => ?_⟩
  · cases q : listAt S d with
    | none => simp only [q] at h; cases h
    | some ds =>
      simp only [q, Option.map_some, Option.some.injEq] at h
      obtain ⟨b, xs, e1, hq, hr⟩ := listAt_rel rl (rv.move l) q
      cases e1
      obtain ⟨x, h1, h2⟩ := hr.get h
      refine ⟨⟨xs, x, hq, h1⟩, fun y H' hy => ?_⟩
      obtain ⟨e2, hy⟩ := hy
      subst e2
      have := hy xs hq
      rw [h1] at this
      cases this
      exact ⟨Le.refl, rl, h2⟩
  · cases q : listAt S d with
    | none => simp only [q] at h; cases h
    | some ds =>
      simp only [q, Option.map_some, Option.some.injEq] at h
      obtain ⟨b, xs, e1, hq, hr⟩ := listAt_rel rl (rv.move l) q
      cases e1
      exact ⟨xs, hq, by rw [← hr.length]; exact List.getElem?_eq_none_iff.mp h⟩
theorem si_list (cc : Cc G X W) (h : SE G X W e m) : SI G X W tg e (iList m) := by
  refine si_of (pi_list h) fun σ H R ρ σs S rl re p => ?_
  refine ⟨ρ, σs, S, rl, re, PostR.bind (R := RV G) p fun ρ1 H1 S1 d x l1 rl1 rv1 p1 => ?_⟩
  cases q : listAt S1 d with
  | none => simp only [q] at p1; exact p1.elim
  | some ds =>
    simp only [q] at p1
    obtain ⟨a, xs, rfl, hq, hr⟩ := listAt_rel rl1 rv1 q
    refine ⟨a, rfl, ⟨xs, by rw [cc.k]; exact hq⟩, p1 ρ1 H1 _ Le.refl rl1 ?_⟩
    rw [cc.k]
    exact jr_list rv1
theorem jr_tup {ρ0 : Wd} {H0 : Hp} {ds : List D} {d : D} {a : Addr} (rv : RV G ρ0 H0 d (.ref a)) (hd : tupD d = some ds) : JR G ρ0 H0 (fun k _ => some ds[k]?) (Itt G.K a) := by
  intro ρ S H l kz rl i
  obtain ⟨b, xs, e1, hq, hr⟩ := tupD_rel (rv.move l) hd
  cases e1
  refine ⟨fun e h => ?_, fun h => ?_⟩
  · obtain ⟨x, h1, h2⟩ := hr.get (Option.some.inj h)
    refine ⟨⟨xs, x, hq, h1⟩, fun y H' hy => ?_⟩
    obtain ⟨e2, hy⟩ := hy
    subst e2
    have := hy xs hq
    rw [h1] at this
    cases this
    exact ⟨Le.refl, rl, h2⟩
  · exact ⟨xs, hq, by rw [← hr.length]; exact List.getElem?_eq_none_iff.mp (Option.some.inj h)⟩
theorem si_tup (cc : Cc G X W) (h : SE G X W e m) : SI G X W tg e (iTup m) := by
  refine si_of (pi_tup h) fun σ H R ρ σs S rl re p => ?_
  refine ⟨ρ, σs, S, rl, re, PostR.bind (R := RV G) p fun ρ1 H1 S1 d x l1 rl1 rv1 p1 => ?_⟩
  have go : ∀ {ds : List D}, tupD d = some ds → PostI G ρ1 H1 (.ok (fun k _ => some ds[k]?) S1) R (EW W σ) → ∃ a, x = .ref a ∧ (∃ xs, SqT X.K H1 a xs) ∧ R (Itt X.K a) H1 := fun {ds} hd p => by
    obtain ⟨a, xs, rfl, hq, hr⟩ := tupD_rel rv1 hd
    refine ⟨a, rfl, ⟨xs, by rw [cc.k]; exact hq⟩, p ρ1 H1 _ Le.refl rl1 ?_⟩
    rw [cc.k]
    exact jr_tup rv1 hd
  cases d with
  | tup ds => exact go rfl p1
  | kt ds => exact go rfl p1
  | _ => exact False.elim p1
theorem jr_range {ρ0 : Wd} {H0 : Hp} {lo : Int} {n : Nat} : JR G ρ0 H0 (fun k _ => some (if k < n then some (.int (lo + (k : Int))) else none)) (Itr lo n) := by
  intro ρ S H l kz rl i
  by_cases hi : i < n
  · refine ⟨fun e h => ?_, fun h => ?_⟩
    · simp only [hi, if_true, Option.some.injEq] at h
      subst h
      refine ⟨hi, fun y H' hy => ?_⟩
      obtain ⟨e2, hy⟩ := hy
      subst e2 hy
      exact ⟨Le.refl, rl, .int _⟩
    · simp only [hi, if_true] at h
      cases h
  · refine ⟨fun e h => ?_, fun h => ?_⟩
    · simp only [hi, if_false] at h
      cases h
    · exact Nat.le_of_not_lt hi
theorem i62_ok {j : Int} (h : i62 j = true) : -(2 ^ 62) ≤ j ∧ j < 2 ^ 62 := by
  unfold i62 at h
  simpa using h
theorem si_range1 (h : SA G X W [e] (aList [m])) (hg : Gl X "range") (hm : X.mg "range" = none) (hs : starEach [e] X.env = [(false, eval e X.env)] := by rfl) : SI G X W tg (.Call (.Name "range" p) [e] [] pos) (iRange1 m) := by
  refine si_of (pi_range1 hg hm h hs) fun σ H R ρ σs S rl re p => ?_
  refine ⟨ρ, σs, S, rl, re, ?_⟩
  show PostA G ρ H ((m σs S).bind fun x S1 => (Res.ok [] S1).bind fun xs S2 => .ok (x :: xs) S2) _ _
  have p' : PostI G ρ H ((m σs S).bind fun d S1 => match d with
    | .int j => if i62 j then .ok (fun k _ => some (if k < j.toNat then some (.int (0 + (k : Int))) else none)) S1 else .bad
    | _ => .bad) R (EW W σ) := p
  cases q : m σs S with
  | ok d S1 =>
    rw [q] at p'
    intro ρ1 H1 vs l1 rl1 rv1
    obtain ⟨x, rfl, h1⟩ := rvs1 rv1
    cases h1 with
    | int j =>
      have p2 : PostI G ρ H (if i62 j then .ok (fun k _ => some (if k < j.toNat then some (.int (0 + (k : Int))) else none)) S1 else .bad) R (EW W σ) := p'
      by_cases hj : i62 j = true
      · rw [if_pos hj] at p2
        exact ⟨j, rfl, (i62_ok hj).1, (i62_ok hj).2, p2 ρ1 H1 _ l1 rl1 jr_range⟩
      · rw [if_neg hj] at p2
        exact p2.elim
    | _ => exact False.elim p'
  | exc x S1 => rw [q] at p'; exact p'
  | bad => rw [q] at p'; exact p'
end
end L2.Mi

set_option Elab.async false
set_option linter.all false
set_option maxRecDepth 100000
set_option maxHeartbeats 4000000
namespace L2.Mi
open PySem PySem.Spec PyProof.Rows

abbrev FN := List D → Store → Res D
def spF (G : Gx) (m : FN) (n : Nat) : Sp := fun vs H Q E => ∃ ρ S ds, vs.length = n ∧ Rl G ρ S H ∧ RVs G ρ H ds vs ∧ Post G ρ H (m ds S) Q E
/-- a def's run by its body's: n slots -/
def bodyRun (n : Nat) (ms : MS) : FN := fun ds S => match ms (ds.map some ++ List.replicate (n - ds.length) none) S with
  | .rt d S1 => .ok d S1
  | .nx _ S1 => .ok .non S1
  | .exc x _ S1 => .exc x S1
  | _ => .bad
abbrev WF (E : XK) : WX := fun c d _ H' => E c d H'
section
variable {G : Gx} {P : Program} {w : World} {mg : Str → Option Value} {base : Heap} {N ps : List Str} {x qual : Str} {params : Arguments} {body : List Stmt} {scope : Scope} {dvs : List V} {kws : List (Str × V)} {f : Addr} {fd : FuncData} {k : Nat} {ms : MS}
theorem re_start {ρ : Wd} {H : Hp} : ∀ {ds : List D} {vs : List V}, RVs G ρ H ds vs → RE G ρ H (ds.map some ++ List.replicate (N.length - ds.length) none) (start N vs) := by
  intro ds vs r
  have hl := r.length
  refine ⟨by unfold start; simp [hl], fun i d h => ?_⟩
  by_cases hi : i < ds.length
  · rw [List.getElem?_append_left (by simpa using hi), List.getElem?_map] at h
    cases q : ds[i]? with
    | none => rw [q] at h; cases h
    | some e =>
      rw [q] at h
      cases h
      obtain ⟨v, h1, h2⟩ := r.get q
      refine ⟨v, ?_, h2⟩
      unfold start
      rw [List.getElem?_append_left (by simpa [← hl] using hi), List.getElem?_map, h1]
      rfl
  · rw [List.getElem?_append_right (by simpa using hi)] at h
    obtain ⟨_, e⟩ := List.getElem?_eq_some_iff.mp h
    simp at e
theorem fnd_ok (F : FunD G.K x qual params body scope dvs kws f fd) (S : FnScope N ps scope)
    (hb : ∀ (cdv : Value) (A : Around) (outer : List Env) (s : Shared) (H : Hp) (E : XK), Room k (A.deeper (envOfC qual scope s.heap.objs.size f cdv)) →
      Cc G (cxOf (L2.CX P w) P w G.K mg base N qual scope f cdv A outer s H E) (WF E) → SSs G (cxOf (L2.CX P w) P w G.K mg base N qual scope f cdv A outer s H E) (WF E) body ms) :
    FnOk P w G.K mg base (L2.CX P w) (k + 1) f fd ps (spF G (bodyRun N.length ms) ps.length) := by
  refine F.ok S (fun vs H Q E h => ?_) (fun cdv A outer s H vs Q E hr h => ?_)
  · obtain ⟨_, _, _, h, _⟩ := h
    exact h
  · obtain ⟨ρ, St, ds, hn, rl, rv, p⟩ := h
    have cc : Cc G (cxOf (L2.CX P w) P w G.K mg base N qual scope f cdv A outer s H E) (WF E) := ⟨rfl, takes_of rfl rfl rfl rfl, passes_of rfl, rfl, S.nd⟩
    refine ⟨_, hb cdv A outer s H E hr cc, ρ, _, St, rl, re_start rv, ?_⟩
    unfold bodyRun at p
    cases q : ms (ds.map some ++ List.replicate (N.length - ds.length) none) St with
    | rt d S1 => rw [q] at p; exact p
    | nx σ1 S1 => rw [q] at p; exact fun ρ1 H1 σ' l1 rl1 re1 => p ρ1 H1 .non l1 rl1 .non
    | exc x σ1 S1 => rw [q] at p; exact fun ρ1 H1 σ' c dd l1 rl1 re1 rx => p ρ1 H1 c dd l1 rl1 rx
    | bk σ1 S1 => rw [q] at p; exact p.elim
    | ct σ1 S1 => rw [q] at p; exact p.elim
    | bad => rw [q] at p; exact p.elim
end
/-- an object of the class c is made by its __init__ -/
def makeW (c : Nat) (m : FN) : FN := fun xs S => (m (.ref S.size :: xs) (S.push (.ins c []))).bind fun r S1 => match r with | .non => .ok (.ref S.size) S1 | _ => .bad
/-- what a callable promises: any arguments, by its run -/
def spG (G : Gx) (m : FN) : Sp := fun vs H Q E => ∃ ρ S ds, Rl G ρ S H ∧ RVs G ρ H ds vs ∧ Post G ρ H (m ds S) Q E
abbrev Cal (G : Gx) (P : Program) (w : World) (mg : Str → Option Value) (base : Heap) (k : Nat) (f : Addr) (m : FN) : Prop := FnR P w G.K mg base (L2.CX P w) k f (spG G m)
section
variable {G : Gx} {X : Cx} {W : WX} {k : Nat} {f C : Addr} {m : FN} {n : Nat} {dd : List D}
theorem run_fnRS {pins : List (Addr × Obj)} {σ : St} {H : Hp} {s : Shared} {Q : VK} {us : List Value} {vs : List V} {CX : CXT} {sp : Sp} {E : XK} (F : FnR X.prog X.w X.K X.mg X.base CX k f sp) (hr : Room k X.A) (hx : PassesAt CX X σ E)
    (I : Inv X pins σ H s) (r : Vals vs us) (h : sp vs H Q E) : wpAny (model X.prog X.w) X.A (call (.ref f) us) (EP X pins σ Q) X.xe s := by
  refine wpAny_call (codeAny_mono (F X.A X.stack s H us vs Q E hr I.env0 r h) fun r s' hq => ?_)
  cases r with
  | error e => exact hx pins H s e s' I hq
  | ok fl =>
    cases fl with
    | ret u => exact I.after hq
    | next => exact False.elim hq
    | brk => exact False.elim hq
    | cont => exact False.elim hq
theorem fns_cal (cc : Cc G X W) (F : Cal G X.prog X.w X.mg X.base k f m) (hr : Room k X.A) : FnS G X W (.ref f) m := by
  intro pins s σ H xs us Q ρ S es I r rl rv p
  have F' : FnR X.prog X.w X.K X.mg X.base (L2.CX X.prog X.w) k f (spG G m) := by rw [cc.k]; exact F
  exact run_fnRS (E := EW W σ) F' hr (passAt cc.tk σ) I r ⟨ρ, S, es, rl, rv, p⟩
theorem run_makeS {pins : List (Addr × Obj)} {σ : St} {H : Hp} {s : Shared} {Q : VK} {us : List Value} {vs : List V} {CX : CXT} {sp : Sp} {E : XK} (M : Mk X.K C f) (F : FnR X.prog X.w X.K X.mg X.base CX k f sp) (hr : Room (k + 1) X.A)
    (hx : PassesAt CX X σ E) (I : Inv X pins σ H s) (r : Vals vs us)
    (h : ∀ x dx, H x = none → H dx = none → dx ≠ x → sp (.ref x :: vs) (upd (upd H dx (.own x)) x (.ins C dx [])) (fun v H2 => v = .non ∧ Q (.ref x) H2) E) :
    wpAny (model X.prog X.w) X.A (call (.ref C) us) (EP X pins σ Q) X.xe s := by
  have hq := h (s.heap.objs.size + 1) s.heap.objs.size (I.hok.fresh (Nat.le_succ _)) (I.hok.fresh (Nat.le_refl _)) (Nat.ne_of_lt (Nat.lt_succ_self _))
  have I2 := Inv.made (C := C) I
  have r2 : Vals (V.ref (s.heap.objs.size + 1) :: vs) (Value.ref (s.heap.objs.size + 1) :: us) := .cons rfl r
  refine wpAny_call (make_map (f := f) I.kIn M.makes M.init (beq_iff_eq.mp M.fn) (codeAny_mono (F _ X.stack _ _ (Value.ref (s.heap.objs.size + 1) :: us) _ _ E (hr.make C us [])
    (I2.env0.make C us []) r2 hq) fun r s' hq' => ?_))
  cases r with
  | error e => exact hx pins _ _ e s' I2 hq'
  | ok fl =>
    cases fl with
    | ret u =>
      obtain ⟨v, H', I3, rv, ev, q3⟩ := I2.after hq'
      subst ev
      exact ⟨rv, ⟨V.ref (s.heap.objs.size + 1), H', I3, rfl, q3⟩⟩
    | next => exact False.elim hq'
    | brk => exact False.elim hq'
    | cont => exact False.elim hq'
theorem fns_make {c : Nat} (cc : Cc G X W) (hC : G.cls c = some C) (M : Mk X.K C f) (F : Cal G X.prog X.w X.mg X.base k f m) (hr : Room (k + 1) X.A) : FnS G X W (.ref C) (makeW c m) := by
  intro pins s σ H xs us Q ρ S es I r rl rv p
  unfold makeW at p
  have F' : FnR X.prog X.w X.K X.mg X.base (L2.CX X.prog X.w) k f (spG G m) := by rw [cc.k]; exact F
  refine run_makeS (E := EW W σ) M F' hr (passAt cc.tk σ) I r fun a dx ha hdx hne => ?_
  have ha1 : L2.upd H dx (.own a) a = none := by rw [upd_ne (Ne.symm hne)]; exact ha
  have l1 : Le G ρ H ρ (L2.upd H dx (.own a)) := Le.new hdx
  have rl1 := rl.other (o := .own a) hdx
  have l2 : Le G ρ (L2.upd H dx (.own a)) (ρ.push a) (L2.upd (L2.upd H dx (.own a)) a (.ins C dx [])) := Le.push ha1
  have rl2 : Rl G (ρ.push a) (S.push (.ins c [])) (L2.upd (L2.upd H dx (.own a)) a (.ins C dx [])) := rl1.push ha1 (.ins hC .nil)
  have l12 := l1.trans l2
  refine ⟨ρ.push a, S.push (.ins c []), .ref S.size :: es, rl2, .cons (RV.new rl1) (rv.mono l12), ?_⟩
  refine PostR.bind (R := RV G) (PostR.le p l12) fun ρ3 H3 S3 d v l3 rl3 rv3 p3 => ?_
  cases rv3 with
  | non =>
    refine ⟨rfl, post_ok (S := S3) p3 rl3 (.ref (pre_get l3.pre ?_))⟩
    rw [← rl1.len]
    simp [Wd.push]
  | _ => exact False.elim p3
end
section
variable {G : Gx} {X : Cx} {W : WX} {e o : Expr} {es : List Expr} {x name : Str} {p pos apos : Pos} {f : Addr} {m : FN} {ma : MA} {mo mv : ME}
/-- f(e, ..) -/
theorem se_call (hc : FnS G X W (.ref f) m) (hg : Gl X x) (hm : X.mg x = some (.ref f)) (hk : PySem.W.keepIn X.K (.ref f) = true) (ha : SA G X W (e :: es) ma) (hdb : (x == ("__debug__" : Str)) = false := by decide)
    (he : starEach (e :: es) X.env = (false, eval e X.env) :: starEach es X.env := by rfl) (hpl : (backTo pos (starEach es X.env)).any (·.1) = false := by rfl) : SE G X W (.Call (.Name x p) (e :: es) [] pos) (eFn m ma) := by
  refine ⟨fun pins s σ H Q I ⟨ρ, σs, S, rl, re, p⟩ => ?_⟩
  refine wpAny_Call_Name_kw (ld_glob I hg hm ?_ hdb)
  refine PySem.W.callWith_K (h₀ := X.base) I.ok.mod.kin hk (ha.go I rl re p fun us s1 xs H1 ρ1 S1 ds I1 rx l1 rl1 re1 rv1 p1 => ⟨I1.kIn, hc pins s1 σ H1 xs us Q ρ1 S1 ds I1 rx rl1 rv1 p1⟩) he hpl
theorem se_call0 (hc : FnS G X W (.ref f) m) (hg : Gl X x) (hm : X.mg x = some (.ref f)) (hk : PySem.W.keepIn X.K (.ref f) = true) (hdb : (x == ("__debug__" : Str)) = false := by decide) : SE G X W (.Call (.Name x p) [] [] pos) (eFn m (aList [])) := by
  refine ⟨fun pins s σ H Q I ⟨ρ, σs, S, rl, re, p⟩ => ?_⟩
  refine wpAny_Call_Name_kw (ld_glob I hg hm ?_ hdb)
  exact PySem.W.callWith_K0 I.kIn hk (hc pins s σ H [] [] Q ρ S [] I .nil rl .nil p)
/-- o.m(e, ..): by the class of o -/
abbrev Disp := Nat → Option FN
def eMeth (ds : Disp) (fi : Nat) (mo : ME) (ma : MA) : ME := fun σ S => (mo σ S).bind fun o S1 => match o with
  | .ref i => (match S1.get i with
    | some (.ins c fs) => (match ds c, fs.lookup fi with
      | some g, none => (ma σ S1).bind fun xs S2 => g (.ref i :: xs) S2
      | _, _ => .bad)
    | _ => .bad)
  | _ => .bad
structure MethS (G : Gx) (X : Cx) (W : WX) (name : Str) (c : Nat) (g : FN) : Prop where
  ex : ∃ C f, G.cls c = some C ∧ Cls X.K C ∧ Meth X.K C name f ∧ FnS G X W (.ref f) g
theorem rfs_lookup {ρ : Wd} {H : Hp} {fi : Nat} : ∀ {fs : List (Nat × D)} {us : List (Str × V)}, RFs G ρ H fs us → (fs.lookup fi = none ∧ us.lookup (G.fld fi) = none) ∨ ∃ d v, fs.lookup fi = some d ∧ us.lookup (G.fld fi) = some v ∧ RV G ρ H d v
  | _, _, .nil => .inl ⟨rfl, rfl⟩
  | _, _, .cons (n := n) (d := d) (v := v) (fs := fs) (us := us) r t => by
    by_cases h : fi = n
    · subst h
      exact .inr ⟨d, v, by simp [List.lookup], by simp [List.lookup], r⟩
    · have h1 : (fi == n) = false := by simp [h]
      have h2 : (G.fld fi == G.fld n) = false := beq_eq_false_iff_ne.mpr fun e => h (G.inj _ _ e)
      simp only [List.lookup, h1, h2]
      exact rfs_lookup t
theorem se_meth {ds : Disp} {fi : Nat} {pl : Sem Bool} (cc : Cc G X W) (he : SE G X W o mo) (hf : G.fld fi = name) (hd : ∀ c g, ds c = some g → MethS G X W name c g) (ha : SA G X W (e :: es) ma)
    (hst : starEach (e :: es) X.env = (false, eval e X.env) :: starEach es X.env := by rfl) (hpl : (backTo pos (starEach es X.env)).any (·.1) = false := by rfl)
    (ht : eval (.Call (.Attribute o name apos) (e :: es) [] pos) X.env = (do
      let ov ← eval o X.env
      standAt apos.atName
      let (f, first) ← holding [ov] (getMethod ov name pl)
      callWith pos f first (backTo pos (starEach (e :: es) X.env)) (backToKw pos (keywordEach [] X.env))) := by rfl) : SE G X W (.Call (.Attribute o name apos) (e :: es) [] pos) (eMeth ds fi mo ma) := by
  refine ⟨fun pins s σ H Q I ⟨ρ, σs, S, rl, re, p⟩ => ?_⟩
  refine PySem.W.methodCall_KW (pl := pl) (he.go I rl re p fun u s1 x H1 ρ1 S1 d I1 rx l1 rl1 re1 rv1 p1 => ?_) ht
  cases rv1 with
  | @ref i a hi =>
    obtain rfl : u = Value.ref a := rx
    cases q : S1.get i with
    | none => simp only [q] at p1; exact p1.elim
    | some ob =>
      obtain ⟨h, hu, ro⟩ := rl1.at hi q
      cases ro with
      | @ins c C dx fs us hC hfs =>
        simp only [q] at p1
        cases q2 : ds c with
        | none => simp only [q2] at p1; exact p1.elim
        | some g =>
          rcases rfs_lookup (fi := fi) hfs with ⟨h1, h2⟩ | ⟨d, v, h1, h2, _⟩
          · simp only [q2, h1] at p1
            obtain ⟨C', f, hC', hcl, hmt, hfn⟩ := (hd c g q2).ex
            rw [hC] at hC'
            cases hC'
            refine getmeth_ok I1 hu hcl hmt (by rw [← hf]; exact h2) ?_
            refine PySem.W.callWith_K (first := [.ref a]) (h₀ := X.base) I.ok.mod.kin hmt.kp (ha.go I1 rl1 re1 p1 fun us s2 xs H2 ρ2 S2 ds I2 rx2 l2 rl2 re2 rv2 p2 => ⟨I2.kIn, ?_⟩) hst hpl
            exact hfn pins s2 σ H2 (.ref a :: xs) (.ref a :: us) Q ρ2 S2 (.ref i :: ds) I2 (.cons rfl rx2) rl2 (.cons (.ref (pre_get l2.pre hi)) rv2) p2
          · simp only [q2, h1] at p1
            exact p1.elim
      | _ => simp only [q] at p1; exact p1.elim
  | _ => exact False.elim p1
theorem se_meth0 {ds : Disp} {fi : Nat} {pl : Sem Bool} (cc : Cc G X W) (he : SE G X W o mo) (hf : G.fld fi = name) (hd : ∀ c g, ds c = some g → MethS G X W name c g)
    (ht : eval (.Call (.Attribute o name apos) [] [] pos) X.env = (do
      let ov ← eval o X.env
      standAt apos.atName
      let (f, first) ← holding [ov] (getMethod ov name pl)
      callWith pos f first (backTo pos (starEach [] X.env)) (backToKw pos (keywordEach [] X.env))) := by rfl) : SE G X W (.Call (.Attribute o name apos) [] [] pos) (eMeth ds fi mo (aList [])) := by
  refine ⟨fun pins s σ H Q I ⟨ρ, σs, S, rl, re, p⟩ => ?_⟩
  refine PySem.W.methodCall_KW (pl := pl) (he.go I rl re p fun u s1 x H1 ρ1 S1 d I1 rx l1 rl1 re1 rv1 p1 => ?_) ht
  cases rv1 with
  | @ref i a hi =>
    obtain rfl : u = Value.ref a := rx
    cases q : S1.get i with
    | none => simp only [q] at p1; exact p1.elim
    | some ob =>
      obtain ⟨h, hu, ro⟩ := rl1.at hi q
      cases ro with
      | @ins c C dx fs us hC hfs =>
        simp only [q] at p1
        cases q2 : ds c with
        | none => simp only [q2] at p1; exact p1.elim
        | some g =>
          rcases rfs_lookup (fi := fi) hfs with ⟨h1, h2⟩ | ⟨d, v, h1, h2, _⟩
          · simp only [q2, h1] at p1
            obtain ⟨C', f, hC', hcl, hmt, hfn⟩ := (hd c g q2).ex
            rw [hC] at hC'
            cases hC'
            refine getmeth_ok I1 hu hcl hmt (by rw [← hf]; exact h2) ?_
            exact PySem.W.callWith_K0 (first := [.ref a]) I1.kIn hmt.kp (hfn pins s1 σ H1 [.ref a] [.ref a] Q ρ1 S1 [.ref i] I1 (.cons rfl .nil) rl1 (.cons (.ref hi) .nil) p1)
          · simp only [q2, h1] at p1
            exact p1.elim
      | _ => simp only [q] at p1; exact p1.elim
  | _ => exact False.elim p1
/-- o.f: a field (none), a property (its getter) -/
abbrev ADisp := Nat → Option (Option FN)
def noExc (r : Res D) : Res D := match r with | .exc _ _ => .bad | r => r
def attrF (ds : ADisp) (fi : Nat) (o : D) (S : Store) : Res D := match o with
  | .ref i => (match S.get i with
    | some (.ins c fs) => (match ds c with
      | some none => (match fs.lookup fi with | some d => .ok d S | none => .bad)
      | some (some g) => noExc (g [.ref i] S)
      | none => .bad)
    | _ => .bad)
  | _ => .bad
structure FieldS (G : Gx) (X : Cx) (name : Str) (c : Nat) : Prop where
  ex : ∃ C, G.cls c = some C ∧ Cls X.K C ∧ NoAttr X.K C name
/-- the getter's promise -/
structure PropS (G : Gx) (X : Cx) (name : Str) (c : Nat) (g : FN) : Prop where
  ex : ∃ C p f k, G.cls c = some C ∧ Cls X.K C ∧ PropOf X.K C name p f ∧ FnR X.prog X.w X.K X.mg X.base (L2.CX X.prog X.w) k f (spG G g) ∧ Room (k + 1) X.A
theorem getprop_okR {C p g a dx : Addr} {fs : List (Str × V)} {f : Str} {k : Nat} {CX : CXT} {sp : Sp} {E : XK} {pins : List (Addr × Obj)} {σ : St} {H : Hp} {s : Shared} {Q : VK} {b : Bool} {E' : Value → Shared → Prop} (I : Inv X pins σ H s) (ea : H a = some (.ins C dx fs)) (c : Cls X.K C) (hp : PropOf X.K C f p g)
    (F : FnR X.prog X.w X.K X.mg X.base CX k g sp) (hr : Room (k + 1) X.A) (hx : Passes CX X.nox E) (h : sp [.ref a] H Q E) :
    wpAny (model X.prog X.w) X.A (getAttr (.ref a) f b) (EP X pins σ Q) E' s := by
  obtain ⟨mA, O, _, _, _, _⟩ := ins_get I.hok ea
  obtain ⟨od, J, _⟩ := O.look
  obtain ⟨rest, hrec⟩ := hp.rec_
  have I1 := I.tok (s.toks + 1)
  have hc : (PySem.W.clsIn X.K C).isSome = true := by
    obtain ⟨cd, hc, _⟩ := PySem.W.any_some c.hd
    rw [hc]
    rfl
  refine PySem.W.get_bind I.kIn J (PySem.W.plainGet_of (c.get f)).1 (PySem.W.findObj_data hc hp.at_ hp.get hp.tak) (PySem.W.plainGet_of (c.get f)).2 (wpAny_call (PySem.W.prop_get (s := { s with toks := s.toks + 1 }) I.kIn hrec ?_))
  refine codeAny_mono (F X.A.in1 X.stack { s with toks := s.toks + 1 } H [.ref a] [.ref a] Q E hr.in1 I1.env0.in1 (.cons rfl .nil) h) fun r s' hq => ?_
  cases r with
  | error er => exact False.elim (hx pins σ H { s with toks := s.toks + 1 } er s' (I1.wish _) hq)
  | ok fl =>
    cases fl with
    | ret u =>
      obtain ⟨v, H', I3, rv, q3⟩ := I1.after hq
      show wpAny _ _ (handedOut u) _ _ _
      rw [PySem.W.handedOut_of (handed_of rv)]
      exact wpAny_pure ⟨v, H', I3, rv, q3⟩
    | next => exact False.elim hq
    | brk => exact False.elim hq
    | cont => exact False.elim hq
theorem passNox {X : Cx} : Passes (L2.CX X.prog X.w) X.nox E0 := fun _ _ _ _ _ _ _ h => by
  obtain ⟨_, _, _, _, _, _, _, _, _, _, _, _, z⟩ := h
  exact z.elim
theorem se_attr {ds : ADisp} {fi : Nat} (cc : Cc G X W) (he : SE G X W o mo) (hf : G.fld fi = name) (h1 : ∀ c, ds c = some none → FieldS G X name c) (h2 : ∀ c g, ds c = some (some g) → PropS G X name c g)
    (hab : attributeBase o name X.env (eval o X.env) = eval o X.env := by rfl) : SE G X W (.Attribute o name pos) (eUn (attrF ds fi) mo) := by
  refine ⟨fun pins s σ H Q I ⟨ρ, σs, S, rl, re, p⟩ => ?_⟩
  refine attr_of hab (he.go I rl re p fun u s1 x H1 ρ1 S1 d I1 rx l1 rl1 re1 rv1 p1 => ?_)
  cases rv1 with
  | @ref i a hi =>
    obtain rfl : u = Value.ref a := rx
    unfold attrF at p1
    cases q : S1.get i with
    | none => simp only [q] at p1; exact p1.elim
    | some ob =>
      obtain ⟨h, hu, ro⟩ := rl1.at hi q
      cases ro with
      | @ins c C dx fs us hC hfs =>
        simp only [q] at p1
        cases q2 : ds c with
        | none => simp only [q2] at p1; exact p1.elim
        | some og =>
          cases og with
          | none =>
            rcases rfs_lookup (fi := fi) hfs with ⟨e1, e2⟩ | ⟨d, v, e1, e2, rv⟩
            · simp only [q2, e1] at p1
              exact p1.elim
            · simp only [q2, e1] at p1
              obtain ⟨C', hC', hcl, hna⟩ := (h1 c q2).ex
              rw [hC] at hC'
              cases hC'
              exact getattr_ok I1 hu hcl hna (by rw [← hf]; exact e2) fun u' s2 I2 ru => ⟨v, H1, I2, ru, post_ok p1 rl1 rv⟩
          | some g =>
            simp only [q2] at p1
            obtain ⟨C', pa, f, k, hC', hcl, hpo, F, hr⟩ := (h2 c g q2).ex
            rw [hC] at hC'
            cases hC'
            refine getprop_okR I1 hu hcl hpo F hr passNox ⟨ρ1, S1, [.ref i], rl1, .cons (.ref hi) .nil, ?_⟩
            cases q3 : g [.ref i] S1 with
            | ok d2 S2 => rw [q3] at p1; exact p1
            | exc x S2 => rw [q3] at p1; exact False.elim p1
            | bad => rw [q3] at p1; exact p1
      | _ => simp only [q] at p1; exact p1.elim
  | _ => exact False.elim p1
/-- o.f = e -/
def putN (n : Nat) (d : D) : List (Nat × D) → List (Nat × D)
  | [] => [(n, d)]
  | (k, e) :: r => if k = n then (k, d) :: r else (k, e) :: putN n d r
theorem putN_rel {ρ : Wd} {H : Hp} {fi : Nat} {d : D} {v : V} (rv : RV G ρ H d v) : ∀ {fs : List (Nat × D)} {us : List (Str × V)}, RFs G ρ H fs us → RFs G ρ H (putN fi d fs) (putF (G.fld fi) v us)
  | _, _, .nil => .cons rv .nil
  | _, _, .cons (n := n) (d := e) (v := y) (fs := fs) (us := us) r t => by
    unfold putN putF
    by_cases h : n = fi
    · subst h
      rw [if_pos rfl, if_pos rfl]
      exact .cons rv t
    · rw [if_neg h, if_neg fun q => h (G.inj _ _ q)]
      exact .cons r (putN_rel rv t)
def fldSet (ok : Nat → Bool) (fi : Nat) (o v : D) (S : Store) : Option Store := match o with
  | .ref i => (match S.get i with
    | some (.ins c fs) => if ok c && decide (fs.length < 900) then some (S.set i (.ins c (putN fi v fs))) else none
    | _ => none)
  | _ => none
def sFld (ok : Nat → Bool) (fi : Nat) (mo mv : ME) : MS := fun σ S => match (mv σ S).bind fun v S1 => (mo σ S1).bind fun o S2 => (match fldSet ok fi o v S2 with | some S3 => Res.ok () S3 | none => .bad) with
  | .ok _ S3 => .nx σ S3
  | .exc x S3 => .exc x σ S3
  | .bad => .bad
theorem ss_fld {ok : Nat → Bool} {fi : Nat} {pos' : Pos} (cc : Cc G X W) (ha : SE G X W o mo) (hv : SE G X W e mv) (hf : G.fld fi = name) (hok : ∀ c, ok c = true → FieldS G X name c)
    (hs : swapsWith e (some (.Attribute o name pos')) pos.line X.env = pure false := by rfl) : SS G X W (.Assign [.Attribute o name pos'] e pos) (sFld ok fi mo mv) := by
  refine ss_of (ps_fld ha hv hs) fun σ H Dn ρ σs S rl re p => ?_
  have p0 : PostR (α := Unit) (β := Unit) G (fun _ _ _ _ => True) ρ H ((mv σs S).bind fun v S1 => (mo σs S1).bind fun o S2 => (match fldSet ok fi o v S2 with | some S3 => Res.ok () S3 | none => .bad)) (fun _ H' => Dn.nx σ H') (EW W σ) := by
    unfold sFld at p
    cases q : ((mv σs S).bind fun v S1 => (mo σs S1).bind fun o S2 => (match fldSet ok fi o v S2 with | some S3 => Res.ok () S3 | none => .bad)) with
    | ok x S3 => rw [q] at p; exact fun ρ1 H1 _ l1 rl1 _ => p ρ1 H1 σ l1 rl1 (re.mono l1)
    | exc x S3 => rw [q] at p; exact fun ρ1 H1 c dd l1 rl1 rx => p ρ1 H1 σ c dd l1 rl1 (re.mono l1) rx
    | bad => rw [q] at p; exact p.elim
  refine ⟨ρ, σs, S, rl, re, PostR.bind (R := RV G) p0 fun ρ1 H1 S1 d y l1 rl1 rv1 p1 => ?_⟩
  refine ⟨ρ1, σs, S1, rl1, re.mono l1, PostR.bind (R := RV G) p1 fun ρ2 H2 S2 od x l2 rl2 rv2 p2 => ?_⟩
  cases rv2 with
  | @ref i a hi =>
    unfold fldSet at p2
    cases q : S2.get i with
    | none => simp only [q] at p2; exact p2.elim
    | some ob =>
      obtain ⟨h, hu, ro⟩ := rl2.at hi q
      cases ro with
      | @ins c C dx fs us hC hfs =>
        simp only [q] at p2
        by_cases hk : (ok c && decide (fs.length < 900)) = true
        · rw [if_pos hk] at p2
          rw [Bool.and_eq_true, decide_eq_true_eq] at hk
          obtain ⟨C', hC', hcl, hna⟩ := (hok c hk.1).ex
          rw [hC] at hC'
          cases hC'
          refine ⟨a, C, dx, us, rfl, hu, hcl, hna, by rw [← hfs.length]; omega, ?_⟩
          rw [← hf]
          exact p2 ρ2 _ () (rl2.leUpd hi hu trivial) (rl2.set hi q hu trivial (.ins hC (putN_rel (rv1.mono l2) hfs))) trivial
        · rw [if_neg hk] at p2
          exact p2.elim
      | _ => simp only [q] at p2; exact p2.elim
  | _ => exact False.elim p2
end
end L2.Mi

set_option Elab.async false
set_option linter.all false
set_option maxRecDepth 100000
set_option maxHeartbeats 4000000
namespace L2.Mi
open PySem PySem.Spec PyProof.Rows

def tagOf (S : Store) : D → Option Tag
  | .non => some (.b "NoneType")
  | .bl _ => some (.b "bool")
  | .int _ => some (.b "int")
  | .str _ => some (.b "str")
  | .tup _ => some (.b "tuple")
  | .kt _ => some (.b "tuple")
  | .lv _ => some (.b "list")
  | .dv _ _ => none
  | .ref i => (match S.get i with
    | some (.lst _) => some (.b "list")
    | some (.lck (.lst _)) => some (.b "list")
    | some (.dic _ _) => some (.b "dict")
    | some (.ins c _) => some (.o c)
    | _ => none)
  | _ => none
def clsTag : D → Option Tag
  | .ty n => some (.b n)
  | .cl c => some (.o c)
  | _ => none
section
variable {G : Gx} {X : Cx} {W : WX} {ρ : Wd} {S : Store} {H : Hp} {d : D} {x : V} {t : Tag}
theorem tag_rel (rl : Rl G ρ S H) (rv : RV G ρ H d x) (h : tagOf S d = some t) : ∃ tv, tagVal G.cls t = some tv ∧ TyX G.K H x tv := by
  cases rv with
  | non => cases h; exact ⟨_, rfl, .base .non⟩
  | bl b => cases h; exact ⟨_, rfl, .base (.bl b)⟩
  | int i => cases h; exact ⟨_, rfl, .base (.int i)⟩
  | str l => cases h; exact ⟨_, rfl, .base (.str _)⟩
  | tup ht hr => cases h; exact ⟨_, rfl, .base (.tup ht)⟩
  | kt ht hr =>
    cases h
    rcases ht with (ht | ⟨o, ht⟩) | ⟨o, its, n, hk, hc, _⟩
    · cases ht
    · cases ht
    · exact ⟨_, rfl, .kTuple hk hc⟩
  | lv n ht hr => cases h; exact ⟨_, rfl, .base (.lst ht)⟩
  | @ref i a hi =>
    unfold tagOf at h
    cases q : S.get i with
    | none => simp only [q] at h; cases h
    | some o =>
      obtain ⟨u, hu, ro⟩ := rl.at hi q
      cases ro with
      | lst r => simp only [q] at h; cases h; exact ⟨_, rfl, .base (.lst hu)⟩
      | dK r => simp only [q] at h; cases h; exact ⟨_, rfl, .base (.dK hu)⟩
      | dT r => simp only [q] at h; cases h; exact ⟨_, rfl, .base (.dT hu)⟩
      | @ins c C dx fs us hC hfs =>
        simp only [q] at h
        cases h
        have z := G.ci c C hC
        exact ⟨.ref C, by show (G.cls c).map Value.ref = _; rw [hC]; rfl, .base (.ins hu z.cl z.ha z.hn z.htk z.hm)⟩
      | lck r =>
        cases r with
        | lst r => simp only [q] at h; cases h; exact ⟨_, rfl, .base (.frz hu)⟩
        | _ => simp only [q] at h; cases h
  | _ => cases h
theorem clsTag_rel (rv : RV G ρ H d x) (h : clsTag d = some t) : ∃ tv, tagVal G.cls t = some tv ∧ ClsV x tv := by
  cases rv with
  | ty n => cases h; exact ⟨_, rfl, .ty n⟩
  | @cl c C hC => cases h; exact ⟨.ref C, by show (G.cls c).map Value.ref = _; rw [hC]; rfl, .own C⟩
  | _ => cases h
end
def isiF (isi : Tag → Tag → Option Bool) : FN := fun ds S => match ds with
  | [d, c] => (match tagOf S d, clsTag c with
    | some t, some u => (match isi t u with | some b => .ok (.bl b) S | none => .bad)
    | _, _ => .bad)
  | _ => .bad
section
variable {G : Gx} {X : Cx} {W : WX}
theorem fns_isi (cc : Cc G X W) : FnS G X W (.builtin "isinstance") (isiF G.isi) := FnS.of call_isi fun ρ S H ds xs Q E rl r p => by
  unfold isiF at p
  split at p
  · rename_i d c
    obtain ⟨x, y, rfl, h1, h2⟩ := rvs2 r
    cases q1 : tagOf S d with
    | none => simp only [q1] at p; exact p.elim
    | some t =>
      cases q2 : clsTag c with
      | none => simp only [q1, q2] at p; exact p.elim
      | some u =>
        cases q3 : G.isi t u with
        | none => simp only [q1, q2, q3] at p; exact p.elim
        | some b =>
          simp only [q1, q2, q3] at p
          obtain ⟨tv, e1, ty⟩ := tag_rel rl h1 q1
          obtain ⟨uv, e2, cv⟩ := clsTag_rel h2 q2
          exact ⟨x, y, tv, uv, b, rfl, cv, by rw [cc.k]; exact ty, by rw [cc.k]; exact G.isi_ok t u b tv uv q3 e1 e2, post_ok p rl (.bl b)⟩
  · exact p.elim
/-- a built-in class as a value -/
theorem se_bltn {x : Str} {n : String} {pos : Pos} (hg : Gl X x) (hm : X.mg x = none) (hv : bootBuiltins x = some (.type n)) (hn : x ≠ "__name__" := by decide) (hd : (x == ("__debug__" : Str)) = false := by decide) : SE G X W (.Name x pos) (eC (.ty n)) :=
  se_of (pe_bltn hg hm hv (v := .ty n) rfl hn hd) fun _ _ _ _ _ _ rl _ p => post_ok p rl (.ty n)
/-- an own class as a value -/
theorem se_cls {x : Str} {c : Nat} {C : Addr} {pos : Pos} (hg : Gl X x) (hm : X.mg x = some (.ref C)) (hC : G.cls c = some C) (hdb : (x == ("__debug__" : Str)) = false := by decide) : SE G X W (.Name x pos) (eC (.cl c)) :=
  se_of (pe_glob hg hm (v := .ref C) rfl hdb) fun _ _ _ _ _ _ rl _ p => post_ok p rl (.cl hC)

theorem inst_at {ρ : Wd} {S : Store} {H : Hp} {i c : Nat} {a : Addr} {fs : List (Nat × D)} (rl : Rl G ρ S H) (hi : ρ.v[i]? = some a) (q : S.get i = some (.ins c fs)) : ∃ C dx us, G.cls c = some C ∧ H a = some (.ins C dx us) := by
  obtain ⟨u, hu, ro⟩ := rl.at hi q
  cases ro with
  | @ins c C dx fs us hC hfs => exact ⟨C, dx, us, hC, hu⟩
theorem cmpBack_of {Q : Value → Shared → Prop} {x : V} {v : Value} {s : Shared} (r : RelV x v) (q : Q v s) : PySem.W.CmpBack Q v s := by
  cases x with
  | non => cases r; exact q
  | bl _ => cases r; exact q
  | int _ => obtain ⟨t, rfl⟩ := r; exact q
  | str _ => obtain ⟨t, rfl⟩ := r; exact q
  | byt _ => obtain ⟨t, rfl⟩ := r; exact q
  | flt _ => obtain ⟨t, rfl⟩ := r; exact q
  | ref _ => cases r; exact q
  | ty _ => cases r; exact q
/-- x op y by the class of x; y an int or of the same class -/
def ownB (ds : Disp) : D → D → Store → Res D := fun x y S => match x with
  | .ref i => (match S.get i with
    | some (.ins c _) => (match ds c with
      | some g => (match y with
        | .int _ => g [.ref i, y] S
        | .ref j => (match S.get j with | some (.ins c' _) => if c' = c then g [.ref i, y] S else .bad | _ => .bad)
        | _ => .bad)
      | none => .bad)
    | _ => .bad)
  | _ => .bad
structure OpClsS (G : Gx) (X : Cx) (W : WX) (op : Operator) (c : Nat) (g : FN) : Prop where
  ex : ∃ C f rc, G.cls c = some C ∧ PySem.W.selfFirst X.K C = true ∧ PySem.W.findIn X.K (.ref C) (PySem.dunder op.info.2) = some (some (.ref f)) ∧ PySem.W.isFn X.K (.ref f) = true ∧
    PySem.W.findIn X.K (.ref C) (dunderR op.info.2) = some rc ∧ (rc = none ∨ ∃ g : Addr, rc = some (.ref g)) ∧ (∃ fo, PySem.W.findIn X.K (.type "int") (PySem.dunder op.info.2) = some fo) ∧
    (∃ ro, PySem.W.findIn X.K (.type "int") (dunderR op.info.2) = some ro) ∧ PySem.W.subIn X.K (.type "int") (.ref C) = some false ∧ FnS G X W (.ref f) g
theorem ops_own {op : Operator} {ds : Disp} (hd : ∀ c g, ds c = some g → OpClsS G X W op c g) : OpS G X W (binaryOp op) (ownB ds) := by
  intro pins s σ H x y v u Q ρ S d1 d2 I rx ry rl r1 r2 p
  cases r1 with
  | @ref i a hi =>
    obtain rfl : v = Value.ref a := rx
    unfold ownB at p
    cases q : S.get i with
    | none => simp only [q] at p; exact p.elim
    | some ob =>
      cases ob with
      | ins c fs =>
        simp only [q] at p
        cases q2 : ds c with
        | none => simp only [q2] at p; exact p.elim
        | some g =>
          simp only [q2] at p
          obtain ⟨C, f, rc, hC, sf, hs, hf, hr, hp, ⟨fo, h1⟩, ⟨ro, h2⟩, hsub, hfn⟩ := (hd c g q2).ex
          obtain ⟨C', dx, us, hC', hH⟩ := inst_at rl hi q
          rw [hC] at hC'
          cases hC'
          obtain ⟨mA, O, _⟩ := ins_get I.hok hH
          obtain ⟨od, J, _⟩ := O.look
          obtain ⟨mF, hF⟩ := I.fr
          have run : Post G ρ H (g [.ref i, d2] S) Q (EW W σ) → wpAny (model X.prog X.w) X.A (call (.ref f) [.ref a, u]) (PySem.W.CmpBack (EP X pins σ Q)) X.xe s := fun p => by
            refine thn (hfn pins s σ H [.ref a, y] [.ref a, u] Q ρ S [.ref i, d2] I (.cons rfl (.cons ry .nil)) rl (.cons (.ref hi) (.cons r2 .nil)) p) fun z s' h => ?_
            obtain ⟨zv, H', I', rz, q'⟩ := h
            exact cmpBack_of rz ⟨zv, H', I', rz, q'⟩
          cases r2 with
          | int n =>
            obtain ⟨t, rfl⟩ := ry
            exact PySem.W.ksp_binT (T := "int") hF I.ok.mod.kin J rfl sf hs hf hr hp h1 h2 hsub (run p)
          | @ref j b hj =>
            obtain rfl : u = Value.ref b := ry
            cases q3 : S.get j with
            | none => simp only [q3] at p; exact p.elim
            | some ob2 =>
              cases ob2 with
              | ins c' fs' =>
                simp only [q3] at p
                by_cases hcc : c' = c
                · rw [if_pos hcc] at p
                  subst hcc
                  obtain ⟨C2, dx2, us2, hC2, hH2⟩ := inst_at rl hj q3
                  rw [hC] at hC2
                  cases hC2
                  obtain ⟨mA2, O2, _⟩ := ins_get I.hok hH2
                  obtain ⟨od2, J2, _⟩ := O2.look
                  exact PySem.W.binop_K hF I.ok.mod.kin J J2.type sf hs hf (run p)
                · rw [if_neg hcc] at p
                  exact p.elim
              | _ => simp only [q3] at p; exact p.elim
          | _ => exact p.elim
      | _ => simp only [q] at p; exact p.elim
  | _ => exact p.elim
structure UnClsS (G : Gx) (X : Cx) (W : WX) (name : Str) (c : Nat) (g : FN) : Prop where
  ex : ∃ C f, G.cls c = some C ∧ PySem.W.findIn X.K (.ref C) name = some (some (.ref f)) ∧ PySem.W.isFn X.K (.ref f) = true ∧ FnS G X W (.ref f) g
/-- x == y by the class of x -/
def eqOwn (isi : Tag → Tag → Option Bool) (ds : Disp) : D → D → Store → Res D := fun x y S => match x with
  | .ref i => (match S.get i, tagOf S y with
    | some (.ins c _), some t => (match ds c with
      | some g => if (t == .o c || isi t (.o c) == some false) = true then g [.ref i, y] S else .bad
      | none => .bad)
    | _, _ => .bad)
  | _ => .bad
theorem kit_false {K : PySem.W.Frag} {t : Value} {C : Addr} (h : PySem.W.kitOne K t (.ref C) = some false) : PySem.W.subIn K t (.ref C) = some false := by
  unfold PySem.W.kitOne at h
  split at h
  · cases h
  · unfold PySem.W.kitCls at h
    simp only at h
    split at h
    · exact h
    · cases h
theorem ops_eqOwn {ds : Disp} (cc : Cc G X W) (hu : X.A.units + 64 < cLine) (hd : ∀ c g, ds c = some g → UnClsS G X W "__eq__" c g) : OpS G X W (compareOp .Eq) (eqOwn G.isi ds) := by
  intro pins s σ H x y v u Q ρ S d1 d2 I rx ry rl r1 r2 p
  cases r1 with
  | @ref i a hi =>
    obtain rfl : v = Value.ref a := rx
    unfold eqOwn at p
    cases q : S.get i with
    | none => simp only [q] at p; exact p.elim
    | some ob =>
      cases ob with
      | ins c fs =>
        cases q4 : tagOf S d2 with
        | none => simp only [q, q4] at p; exact p.elim
        | some t =>
          simp only [q, q4] at p
          cases q2 : ds c with
          | none => simp only [q2] at p; exact p.elim
          | some g =>
            simp only [q2] at p
            by_cases hn : (t == .o c || G.isi t (.o c) == some false) = true
            · rw [if_pos hn] at p
              obtain ⟨C, f, hC, hs, hf, hfn⟩ := (hd c g q2).ex
              obtain ⟨C', dx, us, hC', hH⟩ := inst_at rl hi q
              rw [hC] at hC'
              cases hC'
              obtain ⟨mA, O, _⟩ := ins_get I.hok hH
              obtain ⟨od, J, _⟩ := O.look
              obtain ⟨mF, hF⟩ := I.fr
              obtain ⟨tv, e1, ty⟩ := tag_rel rl r2 q4
              obtain ⟨Pk, Z, pk, _⟩ := kit_of I ry (by rw [cc.k]; exact ty)
              have oC : tagVal G.cls (.o c) = some (.ref C) := by show (G.cls c).map Value.ref = _; rw [hC]; rfl
              have nf : PySem.W.notFirst X.K C tv = true := by
                unfold PySem.W.notFirst
                rw [Bool.or_eq_true] at hn ⊢
                rcases hn with hn | hn
                · refine .inl ?_
                  have e2 : t = .o c := beq_iff_eq.mp hn
                  subst e2
                  rw [oC] at e1
                  cases e1
                  exact beq_self_eq_true _
                · refine .inr ?_
                  have e2 : G.isi t (.o c) = some false := beq_iff_eq.mp hn
                  rw [beq_iff_eq, cc.k]
                  exact kit_false (G.isi_ok t (.o c) false tv (.ref C) e2 e1 oC)
              show wpAny (model X.prog X.w) X.A (richCompare .Eq (.ref a) u) (EP X pins σ Q) X.xe s
              refine PySem.W.cmp_K (op := .Eq) (by omega) hF I.ok.mod.kin J (Z.ty _ _ I.kIn pk) nf hs hf ?_
              refine thn (hfn pins s σ H [.ref a, y] [.ref a, u] Q ρ S [.ref i, d2] I (.cons rfl (.cons ry .nil)) rl (.cons (.ref hi) (.cons r2 .nil)) p) fun z s' h => ?_
              obtain ⟨zv, H', I', rz, q'⟩ := h
              exact cmpBack_of rz ⟨zv, H', I', rz, q'⟩
            · rw [if_neg hn] at p
              exact p.elim
      | _ => simp only [q] at p; exact p.elim
  | _ => exact p.elim
end
end L2.Mi

set_option Elab.async false
set_option linter.all false
set_option maxRecDepth 100000
set_option maxHeartbeats 4000000
namespace PySem.W
open PySem PySem.Calls PyProof.Rows
section
variable {prog : Program} {w : World} {A : Around} {E : Value → Shared → Prop} {s : Shared} {K : Frag} {x C L f : Addr} {h₀ : Heap} {m : Str → Option Value} {ox : Obj} {od : Option Obj} {b tb : Value}
theorem mi_ifBoundB {M : Model} {T : String} {name : Str} {id : String} {args : List Value} {Q : Option Value → Shared → Prop} (X : K.In s.heap) (I : InstAt s.heap x ox C od) (hs : findIn K (.ref C) name = some (some (.builtin id))) (S : Slot T name id)
    (h : wpAny M A (call (.builtin id) (.ref x :: args)) (fun v => Q (some v)) E s) : wpAny M A (callSpecialIfBound? (.ref x) name args) Q E s := by
  simp only [callSpecialIfBound?, bindSpecialIfBound?]
  refine wpAny_holding (wpAny_bind (wpAny_bind (wpAny_bind (I.type.here ((looks_findIn X hs).here ?_)))))
  simp only [S.bind]
  refine wpAny_bind (wpAny_askSetting (wpAny_ite ?_))
  have fin : wpAny M A (call (.builtin id) ([.ref x] ++ args) >>= fun v => pure (some v)) Q E s := wpAny_bind (wpAny_mono h (fun v s' h' => wpAny_pure h') fun _ _ h' => h')
  split
  · exact wpAny_bind (wpAny_pure (wpAny_pure fin))
  · exact wpAny_tryCatch (wpAny_bind (wpAny_pure (wpAny_pure fin)))
theorem mi_ne {Q : Value → Shared → Prop} (hu : A.units + 1 < cLine) (F : Fr h₀ L s.heap m) (X₀ : K.In h₀) (I : InstAt s.heap x ox C od) (hb : Looks (model prog w) s.heap (typeOf b) tb) (hn : notFirst K C tb = true)
    (hs : findIn K (.ref C) "__ne__" = some (some (.builtin "object.__ne__"))) (hm : mroIn K C (.type "object") = some true) (he : findIn K (.ref C) "__eq__" = some (some (.ref f))) (hf : isFn K (.ref f) = true)
    (h : wpAny (model prog w) A.in1 (call (.ref f) [.ref x, b]) (fun v s' => ∃ k, v = .bool k ∧ Q (.bool (!k)) s') E s) : wpAny (model prog w) A (richCompare .NotEq (.ref x) b) Q E s := by
  have X := X₀.keeps F.keep
  have inst : Looks (model prog w) s.heap (isInstance (.ref x) (.type "object")) true := I.type.andThen (looks_mroIn X hm)
  have one : wpAny (model prog w) A (tryCompare (.ref x) (cmpInfo .NotEq).2.1 b) (fun r s' => ∃ v, r = some v ∧ Q v s') E s := by
    unfold tryCompare
    refine wpAny_bind (mi_ifBoundB (T := "object") X I hs PySem.F.cmp_object.ne ?_)
    refine wpAny_call (codeAny_call_builtin (by decide +kernel) PySem.F.cmpEntry_ne (check_slot PySem.F.cmpKind_ne PySem.F.cmpSplit_ne inst (PySem.F.cmpArgs_ne _ _) ?_))
    unfold Builtin.«object.__ne__»
    refine wpAny_bind (wpAny_pure ?_)
    dsimp only
    refine wpAny_bind (wpAny_cRoomFor (show A.units + 1 < cLine from hu) ?_)
    refine wpAny_bind (ifBound_K X I he hf (wpAny_mono h (fun v s' hv => ?_) fun _ _ e => e))
    obtain ⟨k, rfl, q⟩ := hv
    dsimp only
    refine wpAny_bind (wpAny_truthy_bool ?_)
    exact wpAny_pure (wpAny_pure ⟨_, rfl, q⟩)
  unfold richCompare
  simp only [oneThing_ref]
  refine wpAny_holding (wpAny_bind (wpAny_cRoomFor (by omega) ?_))
  refine wpAny_bind (I.type.here (wpAny_bind (hb.here ?_)))
  split
  · rename_i q
    have e : subIn K tb (.ref C) = some false := by
      rcases Bool.or_eq_true_iff.mp hn with e | e
      · rw [beq_iff_eq.mp e] at q; simp at q
      · exact beq_iff_eq.mp e
    refine wpAny_bind ((looks_subIn X e).here ?_)
    simp only [Bool.false_eq_true, if_false]
    refine wpAny_bind (wpAny_mono one (fun r s' z => ?_) fun _ _ e => e)
    obtain ⟨v, rfl, hq⟩ := z
    exact wpAny_pure hq
  · refine wpAny_bind (wpAny_pure ?_)
    simp only [Bool.false_eq_true, if_false]
    refine wpAny_bind (wpAny_mono one (fun r s' z => ?_) fun _ _ e => e)
    obtain ⟨v, rfl, hq⟩ := z
    exact wpAny_pure hq
end
end PySem.W
namespace L2.Mi
open PySem PySem.Spec PyProof.Rows
/-- x != y by the own == of x's class -/
def neOwn (isi : Tag → Tag → Option Bool) (ds : Disp) : D → D → Store → Res D := fun x y S => match x with
  | .ref i => (match S.get i, tagOf S y with
    | some (.ins c _), some t => (match ds c with
      | some g => if (t == .o c || isi t (.o c) == some false) = true then (match g [.ref i, y] S with | .ok (.bl k) S1 => .ok (.bl (!k)) S1 | _ => .bad) else .bad
      | none => .bad)
    | _, _ => .bad)
  | _ => .bad
structure NeClsS (G : Gx) (X : Cx) (c : Nat) (g : FN) : Prop where
  ex : ∃ C f k, G.cls c = some C ∧ PySem.W.findIn X.K (.ref C) "__ne__" = some (some (.builtin "object.__ne__")) ∧ PySem.W.findIn X.K (.ref C) "__eq__" = some (some (.ref f)) ∧ PySem.W.isFn X.K (.ref f) = true ∧
    FnR X.prog X.w X.K X.mg X.base (L2.CX X.prog X.w) k f (spG G g) ∧ Room (k + 1) X.A
section
variable {G : Gx} {X : Cx} {W : WX}
theorem ops_neOwn {ds : Disp} (cc : Cc G X W) (hu : X.A.units + 64 < cLine) (hd : ∀ c g, ds c = some g → NeClsS G X c g) : OpS G X W (compareOp .NotEq) (neOwn G.isi ds) := by
  intro pins s σ H x y v u Q ρ S d1 d2 I rx ry rl r1 r2 p
  cases r1 with
  | @ref i a hi =>
    obtain rfl : v = Value.ref a := rx
    unfold neOwn at p
    cases q : S.get i with
    | none => simp only [q] at p; exact p.elim
    | some ob =>
      cases ob with
      | ins c fs =>
        cases q4 : tagOf S d2 with
        | none => simp only [q, q4] at p; exact p.elim
        | some t =>
          simp only [q, q4] at p
          cases q2 : ds c with
          | none => simp only [q2] at p; exact p.elim
          | some g =>
            simp only [q2] at p
            by_cases hn : (t == .o c || G.isi t (.o c) == some false) = true
            · rw [if_pos hn] at p
              obtain ⟨C, f, k, hC, hs, he, hf, F, hr⟩ := (hd c g q2).ex
              obtain ⟨C', dx, us, hC', hH⟩ := inst_at rl hi q
              rw [hC] at hC'
              cases hC'
              obtain ⟨mA, O, _⟩ := ins_get I.hok hH
              obtain ⟨od, J, _⟩ := O.look
              obtain ⟨mF, hF⟩ := I.fr
              obtain ⟨tv, e1, ty⟩ := tag_rel rl r2 q4
              obtain ⟨Pk, Z, pk, _⟩ := kit_of I ry (by rw [cc.k]; exact ty)
              have oC : tagVal G.cls (.o c) = some (.ref C) := by show (G.cls c).map Value.ref = _; rw [hC]; rfl
              have nf : PySem.W.notFirst X.K C tv = true := by
                unfold PySem.W.notFirst
                rw [Bool.or_eq_true] at hn ⊢
                rcases hn with hn | hn
                · refine .inl ?_
                  have e2 : t = .o c := beq_iff_eq.mp hn
                  subst e2
                  rw [oC] at e1
                  cases e1
                  exact beq_self_eq_true _
                · refine .inr ?_
                  have e2 : G.isi t (.o c) = some false := beq_iff_eq.mp hn
                  rw [beq_iff_eq, cc.k]
                  exact kit_false (G.isi_ok t (.o c) false tv (.ref C) e2 e1 oC)
              show wpAny (model X.prog X.w) X.A (richCompare .NotEq (.ref a) u) (EP X pins σ Q) X.xe s
              refine PySem.W.mi_ne (by omega) hF I.ok.mod.kin J (Z.ty _ _ I.kIn pk) nf hs (by rw [cc.k]; exact (G.ci c C hC).hm) he hf ?_
              have hsp : spG G g [.ref a, y] H (fun z H' => ∃ k, z = .bl k ∧ Q (.bl (!k)) H') E0 := ⟨ρ, S, [.ref i, d2], rl, .cons (.ref hi) (.cons r2 .nil), by
                cases q5 : g [.ref i, d2] S with
                | ok d S1 =>
                  rw [q5] at p
                  intro ρ1 H1 z l1 rl1 rv1
                  cases rv1 with
                  | bl k => exact ⟨k, rfl, p ρ1 H1 _ l1 rl1 (.bl _)⟩
                  | _ => exact False.elim p
                | exc xx S1 => rw [q5] at p; exact False.elim p
                | bad => rw [q5] at p; exact False.elim p⟩
              refine wpAny_call (codeAny_mono (F X.A.in1 X.stack s H [.ref a, u] [.ref a, y] _ E0 hr.in1 I.env0.in1 (.cons rfl (.cons ry .nil)) hsp) fun r s' hq => ?_)
              cases r with
              | error er => exact False.elim (passNox (X := X) pins σ H s er s' (I.wish _) hq)
              | ok fl =>
                cases fl with
                | ret w =>
                  obtain ⟨z, H', I', rz, k, ez, q6⟩ := I.after hq
                  subst ez
                  cases rz
                  exact ⟨k, rfl, .bl (!k), H', I', rfl, q6⟩
                | next => exact False.elim hq
                | brk => exact False.elim hq
                | cont => exact False.elim hq
            · rw [if_neg hn] at p
              exact p.elim
      | _ => simp only [q] at p; exact p.elim
  | _ => exact p.elim
end
structure CallOS (G : Gx) (X : Cx) (c : Nat) (g : FN) : Prop where
  ex : ∃ C f k, G.cls c = some C ∧ StX.CallO X.K C f ∧ FnR X.prog X.w X.K X.mg X.base (L2.CX X.prog X.w) k f (spG G g) ∧ Room k X.A
section
variable {G : Gx} {X : Cx} {W : WX} {e fe o : Expr} {es : List Expr} {pos apos p : Pos} {ma : MA} {mf mo m : ME} {name : Str}
def eBm (ck : D → Store → Bool) (f : D → List D → Store → Res D) (mo : ME) (ma : MA) : ME := fun σ S => (mo σ S).bind fun o S1 => if ck o S1 then (ma σ S1).bind fun xs S2 => f o xs S2 else .bad
def MtS (G : Gx) (X : Cx) (W : WX) (id : String) (f : D → List D → Store → Res D) : Prop :=
  ∀ (pins : List (Addr × Obj)) (s : Shared) (σ : St) (H : Hp) (x : V) (xs : List V) (v : Value) (us : List Value) (Q : VK) (ρ : Wd) (S : Store) (d : D) (ds : List D), Inv X pins σ H s → RelV x v → Vals xs us → Rl G ρ S H → RV G ρ H d x → RVs G ρ H ds xs →
    Post G ρ H (f d ds S) Q (EW W σ) → wpAny (model X.prog X.w) X.A (call (.builtin id) (v :: us)) (EP X pins σ Q) X.xe s
theorem MtS.of {id : String} {f : D → List D → Store → Res D} {r : V → List V → Hp → VK → Prop} (hm : MtR X id r) (h : ∀ ρ S H d ds x xs Q E, Rl G ρ S H → RV G ρ H d x → RVs G ρ H ds xs → Post G ρ H (f d ds S) Q E → r x xs H Q) : MtS G X W id f :=
  fun pins s σ H x xs v us Q ρ S d ds I rx rs rl r1 r2 p => hm pins s σ H x xs v us Q I rx rs (h ρ S H d ds x xs Q _ rl r1 r2 p)
theorem se_bm {T id : String} {ck : D → Store → Bool} {f : D → List D → Store → Res D} (pa : PlainAttrs T) (slot : Slot T name id) (hty : typeOf (.builtin id) = pure (.type "method_descriptor")) (hm : MtS G X W id f)
    (hT : ∀ ρ S H d x, Rl G ρ S H → RV G ρ H d x → ck d S = true → tyV X.K T x H) (ho : SE G X W o mo) (ha : SA G X W (e :: es) ma)
    (hbase : attributeBase o name X.env (eval o X.env) = eval o X.env := by rfl)
    (hfew : ((backTo pos (starEach (e :: es) X.env)).all (fun x => !x.1) && (backToKw pos (keywordEach [] X.env)).all (fun x => x.1.isSome)
      && decide ((e :: es).length + ([] : List Keyword).length + (if ([] : List Keyword).isEmpty then 0 else 1) < 30)) = true := by rfl)
    (hline : (apos.endLine == pos.line) = true := by rfl) (hs : starEach (e :: es) X.env = (false, eval e X.env) :: starEach es X.env := by rfl) (hplain : (backTo pos (starEach es X.env)).any (·.1) = false := by rfl) :
    SE G X W (.Call (.Attribute o name apos) (e :: es) [] pos) (eBm ck f mo ma) := by
  refine ⟨fun pins s σ H Q I ⟨ρ, σs, S, rl, re, p⟩ => ?_⟩
  refine wpAny_Call_method_late hbase hfew hline rfl (ho.go I rl re p fun v s1 x H1 ρ1 S1 d I1 r1 l1 rl1 re1 rv1 p1 => ?_)
  by_cases hc : ck d S1 = true
  · rw [if_pos hc] at p1
    obtain ⟨h1, h2⟩ := tyV_is I1 r1 (hT ρ1 S1 H1 d x rl1 rv1 hc)
    refine ⟨T, id, pa, slot, hty, h1, h2, ?_⟩
    have hA : wpAny (model X.prog X.w) X.A (spliced (backTo pos (starEach (e :: es) X.env))) (fun us s2 => wpAny (model X.prog X.w) X.A (call (.builtin id) (v :: us)) (EP X pins σ Q) X.xe s2) X.xe s1 :=
      ha.go I1 rl1 re1 p1 fun us s2 xs H2 ρ2 S2 ds I2 rx2 l2 rl2 re2 rv2 p2 => hm pins s2 σ H2 x xs v us Q ρ2 S2 d ds I2 r1 rx2 rl2 (rv1.mono l2) rv2 p2
    rw [hs] at hA ⊢
    refine Calls.callWith_builtin (by show (false || (backTo pos (starEach es X.env)).any (·.1)) = false; rw [hplain] <;> rfl) (Calls.evalArgs_plain ?_)
    exact hA
  · rw [if_neg hc] at p1
    exact p1.elim
def isLst (d : D) (S : Store) : Bool := (listAt S d).isSome
theorem ck_list (cc : Cc G X W) : ∀ ρ S H d x, Rl G ρ S H → RV G ρ H d x → isLst d S = true → tyV X.K "list" x H := fun ρ S H d x rl rv h => by
  unfold isLst at h
  cases q : listAt S d with
  | none => rw [q] at h; cases h
  | some ds =>
    obtain ⟨a, xs, rfl, hq, _⟩ := listAt_rel rl rv q
    exact .inl ⟨rfl, xs, by rw [cc.k]; exact hq⟩
def appendF : D → List D → Store → Res D := fun o xs S => match o, xs with
  | .ref i, [y] => (match S.get i with
    | some (.lst ds) => if ds.length < lim then .ok .non (S.set i (.lst (ds ++ [y]))) else .bad
    | _ => .bad)
  | _, _ => .bad
theorem lst_at {ρ : Wd} {S : Store} {H : Hp} {i : Nat} {a : Addr} {ds : List D} (rl : Rl G ρ S H) (hi : ρ.v[i]? = some a) (q : S.get i = some (.lst ds)) : ∃ xs, H a = some (.lst xs) ∧ RVs G ρ H ds xs := by
  obtain ⟨u, hu, ro⟩ := rl.at hi q
  cases ro with
  | lst r => exact ⟨_, hu, r⟩
theorem mts_append : MtS G X W "list.append" appendF := MtS.of mt_append fun ρ S H d ds x xs Q E rl r1 r2 p => by
  unfold appendF at p
  split at p
  · rename_i i y
    obtain ⟨z, rfl, hz⟩ := rvs1 r2
    cases r1 with
    | @ref i a hi =>
      cases q : S.get i with
      | none => simp only [q] at p; exact p.elim
      | some ob =>
        cases ob with
        | lst es =>
          simp only [q] at p
          obtain ⟨us, hu, hr⟩ := lst_at rl hi q
          by_cases hl : es.length < lim
          · rw [if_pos hl] at p
            exact ⟨a, us, z, rfl, rfl, hu, by rw [← hr.length]; exact lim_lt hl, p ρ _ _ (rl.leUpd hi hu trivial) (rl.set hi q hu trivial (.lst (hr.append (.cons hz .nil)))) .non⟩
          · rw [if_neg hl] at p
            exact p.elim
        | _ => simp only [q] at p; exact p.elim
  · exact p.elim
/-- l[i] = v -/
def setL : D → D → D → Store → Option Store := fun o i v S => match o, i with
  | .ref a, .int k => (match S.get a with
    | some (.lst ds) => (match ixN ds.length k with | some j => some (S.set a (.lst (ds.set j v))) | none => none)
    | _ => none)
  | _, _ => none
theorem sts_list : StS G X setL := by
  intro pins s σ H x y z v u w Q ρ S S' d1 d2 d3 I rx ry rz rl r1 r2 r3 h k
  unfold setL at h
  split at h
  · rename_i i n
    cases r1 with
    | @ref i a hi =>
      cases r2 with
      | int _ =>
        cases q : S.get i with
        | none => simp only [q] at h; cases h
        | some ob =>
          cases ob with
          | lst es =>
            simp only [q] at h
            obtain ⟨us, hu, hr⟩ := lst_at rl hi q
            cases q2 : ixN es.length n with
            | none => simp only [q2] at h; cases h
            | some j =>
              simp only [q2] at h
              cases h
              refine set_list pins s σ H _ _ _ v u w Q I rx ry rz ⟨a, us, n, j, rfl, rfl, hu, by rw [← hr.length]; exact q2, ?_⟩
              exact k ρ _ (rl.leUpd hi hu trivial) (rl.set hi q hu trivial (.lst (hr.set r3 j)))
          | _ => simp only [q] at h; cases h
  · cases h
end
end L2.Mi

set_option Elab.async false
set_option linter.all false
set_option maxRecDepth 100000
set_option maxHeartbeats 4000000
namespace L2.Mi
open PySem PySem.Spec PyProof.Rows

def wipeD (σ : En) : List Nat → En
  | [] => σ
  | v :: vs => (wipeD σ vs).set v none
theorem wipe_set {σ : St} {i : Nat} {o : Option V} : ∀ {vs : List Nat}, wipe (σ.set i o) vs = if i ∈ vs then wipe σ vs else (wipe σ vs).set i o
  | [] => by simp [wipe]
  | w :: vs => by
    unfold wipe
    rw [wipe_set (vs := vs)]
    by_cases h1 : i ∈ vs
    · simp [h1]
    · by_cases h2 : i = w
      · subst h2
        simp [h1, List.set_set]
      · simp only [h1, List.mem_cons, h2, or_self, if_false]
        rw [List.set_comm _ _ h2]
theorem wipe_wipe {σ : St} : ∀ {vs : List Nat}, wipe (wipe σ vs) vs = wipe σ vs := by
  have key : ∀ (ws vs : List Nat), (∀ w ∈ ws, w ∈ vs) → wipe (wipe σ ws) vs = wipe σ vs := by
    intro ws
    induction ws with
    | nil => intro vs _; rfl
    | cons w ws ih =>
      intro vs h
      show wipe ((wipe σ ws).set w none) vs = _
      rw [wipe_set, if_pos (h w (by simp))]
      exact ih vs fun x hx => h x (by simp [hx])
  exact fun {vs} => key vs vs fun _ h => h
/-- the targets of a comprehension: a name, some names -/
inductive TgN where
  | one (i : Nat)
  | many (is : List Nat)
def TgN.slots : TgN → List Nat
  | .one i => [i]
  | .many is => is
def setAll : List Nat → List D → En → Option En
  | [], [], σ => some σ
  | i :: is, d :: ds, σ => setAll is ds (σ.set i (some d))
  | _, _, _ => none
def TgN.put (t : TgN) (d : D) (σ : En) : Option En := match t with
  | .one i => some (σ.set i (some d))
  | .many is => (match d with | .tup ds => setAll is ds σ | _ => none)
def gNames : List Nat → TGs
  | [] => gNil
  | i :: is => gCons (L2.gName i) (gNames is)
def TgN.tg (K : PySem.W.Frag) : TgN → TG
  | .one i => L2.gName i
  | .many is => L2.gTup K is.length (gNames is)
section
variable {G : Gx} {ρ : Wd} {H : Hp}
theorem RE.setNone {σs : En} {σ : St} (r : RE G ρ H σs σ) (i : Nat) : RE G ρ H (σs.set i none) (σ.set i none) := by
  refine ⟨by simp [r.len], fun j e hj => ?_⟩
  by_cases hij : i = j
  · subst hij
    by_cases hl : i < σs.length
    · rw [List.getElem?_set_self hl] at hj; cases hj
    · rw [List.getElem?_eq_none (by simpa using hl)] at hj; cases hj
  · rw [List.getElem?_set_ne hij] at hj ⊢
    exact r.get j e hj
theorem RE.wipe {σs : En} {σ : St} (r : RE G ρ H σs σ) : ∀ (vs : List Nat), RE G ρ H (wipeD σs vs) (L2.wipe σ vs)
  | [] => r
  | v :: vs => (RE.wipe r vs).setNone v
theorem names_go {Q : St → Hp → Prop} : ∀ {is : List Nat} {ds : List D} {xs : List V} {σs σ2 : En} {σ : St}, RVs G ρ H ds xs → RE G ρ H σs σ → setAll is ds σs = some σ2 → ∀ (vs : List Nat), (∀ i ∈ is, i ∈ vs) →
    (∀ σ', RE G ρ H σ2 σ' → L2.wipe σ' vs = L2.wipe σ vs → Q σ' H) → gNames is xs σ H Q
  | [], [], _, _, _, _, .nil, re, h, vs, _, k => by cases h; exact ⟨rfl, k _ re rfl⟩
  | i :: is, d :: ds, _, σs, σ2, σ, .cons r t, re, h, vs, hv, k => by
    refine ⟨_, _, rfl, ?_⟩
    show gNames is _ (σ.set i (some _)) H Q
    refine names_go t (re.set i r) h vs (fun j hj => hv j (by simp [hj])) fun σ' re' e => k σ' re' ?_
    rw [e, wipe_set, if_pos (hv i (by simp))]
  | [], _ :: _, _, _, _, _, _, _, h, _, _, _ => by cases h
  | _ :: _, [], _, _, _, _, _, _, h, _, _, _ => by cases h
theorem setAll_len : ∀ {is : List Nat} {ds : List D} {σs σ2 : En}, setAll is ds σs = some σ2 → ds.length = is.length
  | [], [], _, _, _ => rfl
  | _ :: is, _ :: ds, _, _, h => by simp [setAll_len (is := is) (ds := ds) h]
  | [], _ :: _, _, _, h => by cases h
  | _ :: _, [], _, _, h => by cases h
theorem put_go {Q : St → Hp → Prop} {K : PySem.W.Frag} {t : TgN} {d : D} {x : V} {σs σ2 : En} {σ : St} (rv : RV G ρ H d x) (re : RE G ρ H σs σ) (h : t.put d σs = some σ2) (vs : List Nat) (hv : ∀ i ∈ t.slots, i ∈ vs)
    (k : ∀ σ', RE G ρ H σ2 σ' → L2.wipe σ' vs = L2.wipe σ vs → Q σ' H) : t.tg K x σ H Q := by
  cases t with
  | one i =>
    cases h
    refine k _ (re.set i rv) ?_
    rw [wipe_set, if_pos (hv i (by simp [TgN.slots]))]
  | many is =>
    cases rv with
    | @tup ds a xs ht hr =>
      have h' : setAll is ds σs = some σ2 := h
      exact ⟨a, xs, rfl, SqT.of ht, by rw [← hr.length]; exact setAll_len h', names_go hr re h' vs hv k⟩
    | _ => cases h
end
def lcGo (src : Src) (t : TgN) (mt : MT) (me : ME) (σ : En) : Nat → Nat → List D → Store → Res (List D)
  | 0, _, _, _ => .bad
  | n + 1, k, acc, S => match src k S with
    | none => .bad
    | some none => .ok acc S
    | some (some d) => (match t.put d σ with
      | none => .bad
      | some σ2 => (match mt σ2 S with
        | .ok true S1 => (match me σ2 S1 with
          | .ok y S2 => if acc.length < lim then lcGo src t mt me σ n (k + 1) (acc ++ [y]) S2 else .bad
          | _ => .bad)
        | .ok false S1 => lcGo src t mt me σ n (k + 1) acc S1
        | _ => .bad))
/-- the list as a value that nobody changes, as one that is changed later -/
def eLcV (mi : MI) (t : TgN) (mt : MT) (me : ME) (vs : List Nat) (n : Nat) : ME := fun σ S => (mi σ S).bind fun src S1 => (lcGo src t mt me (wipeD σ vs) n 0 [] S1).bind fun ds S2 => .ok (.lv ds) S2
def tYesM : MT := fun _ S => .ok true S
abbrev W0 : WX := fun _ _ _ _ => False
section
variable {G : Gx} {X : Cx} {W : WX}
theorem cc_blk (cc : Cc G X W) {s : Shared} {H : Hp} {scope : Scope} {cenv : Env} {fp : List Addr} : Cc G (X.blk s H scope cenv fp) W0 := ⟨cc.k, takes0, PassesOwn.never, cc.calm, cc.nd⟩
theorem sts_nil : PTs X [] (tmt G W tYesM) := ⟨fun pins s σ H Q I ⟨ρ, σs, S, rl, re, p⟩ => (pts_nil).run pins s σ H Q I (p ρ H true Le.refl rl rfl)⟩
theorem Mv.unhide {ρ : Wd} {a : Addr} {H : Hp} : Mv G ⟨ρ.v, a :: ρ.h⟩ H ρ H :=
  ⟨fun _ _ h => h, fun _ _ _ h => h, fun _ _ n h => ⟨⟨n.1, fun z => n.2 (List.mem_cons_of_mem _ z)⟩, h⟩, fun _ _ n _ h => ⟨⟨n.1, fun z => n.2 (List.mem_cons_of_mem _ z)⟩, h⟩⟩
theorem Mv.hide {ρ : Wd} {a : Addr} {H : Hp} {u : HO} (hn : H a = none) : Mv G ρ H ⟨ρ.v, a :: ρ.h⟩ (L2.upd H a u) := by
  have ne : ∀ b, H b ≠ none → b ≠ a := fun b hb z => hb (by rw [z]; exact hn)
  refine ⟨fun _ _ h => h, tk_new hn, fun b xs n h => ?_, fun b v n _ h => ?_⟩
  · have hb := ne b (by rw [h]; simp)
    exact ⟨⟨n.1, by simp [hb, n.2]⟩, by rw [upd_ne hb]; exact h⟩
  · have hb := ne b (rd_some h)
    exact ⟨⟨n.1, by simp [hb, n.2]⟩, rd_new hn h⟩
theorem Rl.unhide {ρ : Wd} {a : Addr} {S : Store} {H : Hp} (r : Rl G ⟨ρ.v, a :: ρ.h⟩ S H) : Rl G ρ S H :=
  ⟨r.len, r.nd, fun b hb => r.hh b (List.mem_cons_of_mem _ hb), fun i o e => let ⟨b, u, h1, h2, h3⟩ := r.ob i o e; ⟨b, u, h1, h2, h3.move Mv.unhide⟩, r.tb⟩
theorem Rl.hide {ρ : Wd} {a : Addr} {S : Store} {H : Hp} {u : HO} (r : Rl G ρ S H) (hn : H a = none) (nu : NTb u := by trivial) : Rl G ⟨ρ.v, a :: ρ.h⟩ S (L2.upd H a u) := by
  have r1 := r.other (o := u) hn
  refine ⟨r.len, r.nd, fun b hb => ?_, fun i o e => ?_, r1.tb⟩
  · rcases List.mem_cons.mp hb with rfl | hb
    · exact ⟨(r.no hn).1, by rw [upd_same]; exact nu⟩
    · exact r1.hh b hb
  · obtain ⟨b, w, h1, h2, h3⟩ := r.ob i o e
    exact ⟨b, w, h1, by rw [upd_ne (ne_of_none h2 hn)]; exact h2, h3.move (Mv.hide hn)⟩
/-- the hidden thing is changed: values stand -/
theorem Mv.grow {ρ : Wd} {a : Addr} {H : Hp} {u w : HO} (hw : H a = some w) (nt : NoT w) (hm : a ∈ ρ.h) : Mv G ρ H ρ (L2.upd H a u) := by
  refine ⟨fun _ _ h => h, tk_upd hw nt, fun b xs n h => ⟨n, ?_⟩, fun b v n _ h => ⟨n, ?_⟩⟩
  · rw [upd_ne (show b ≠ a from fun z => n.2 (by rw [z]; exact hm))]
    exact h
  · have hb : b ≠ a := fun z => n.2 (by rw [z]; exact hm)
    rcases h with h | ⟨o, h⟩
    · exact .inl (by rw [upd_ne hb]; exact h)
    · exact .inr ⟨o, by rw [upd_ne hb]; exact h⟩
theorem Rl.grow {ρ : Wd} {a : Addr} {S : Store} {H : Hp} {u w : HO} (r : Rl G ρ S H) (hw : H a = some w) (nt : NoT w) (hm : a ∈ ρ.h) (nu : NTb u := by trivial) : Rl G ρ S (L2.upd H a u) := by
  refine ⟨r.len, r.nd, fun b hb => ⟨(r.hh b hb).1, ?_⟩, fun i o e => ?_, tabs_upd r.tb hw nt.noE⟩
  · by_cases hba : b = a
    · subst hba; rw [upd_same]; exact nu
    · rw [upd_ne hba]; exact (r.hh b hb).2
  · obtain ⟨b, v, h1, h2, h3⟩ := r.ob i o e
    refine ⟨b, v, h1, ?_, h3.move (Mv.grow hw nt hm)⟩
    rw [upd_ne (show b ≠ a from fun z => (r.hh a hm).1 (by rw [← z]; exact List.mem_of_getElem? h1))]
    exact h2
/-- a new thing at a is hidden -/
theorem Le.hide {ρ : Wd} {a : Addr} {H : Hp} {u : HO} (hn : H a = none) {ρ' : Wd} {H' : Hp} (hh : ∀ b, b ∈ ρ.h → H b ≠ none) (l : Le G ⟨ρ.v, a :: ρ.h⟩ (L2.upd H a u) ρ' H') : Le G ρ H ⟨ρ'.v, ρ.h⟩ H' := by
  have e : ρ'.h = a :: ρ.h := l.hid
  have ne : ∀ b, H b ≠ none → b ≠ a := fun b hb z => hb (by rw [z]; exact hn)
  refine ⟨l.pre, rfl, fun b xs t h => l.tk b xs t (by rw [upd_ne (ne b (by rw [h]; simp))]; exact h), fun b xs nb h => ?_, fun b v nb dk h => ?_, fun b nb h => ?_, fun b hb h => ?_, fun b o v h => l.kz b o v (by rw [upd_ne (ne b (by rw [h]; simp))]; exact h)⟩
  · have hb := ne b (by rw [h]; simp)
    exact l.kl b xs ⟨nb.1, by simp [hb, nb.2]⟩ (by rw [upd_ne hb]; exact h)
  · have hb := ne b (rd_some h)
    exact l.kp b v ⟨nb.1, by simp [hb, nb.2]⟩ dk (rd_new hn h)
  · have hb := ne b h.ne
    obtain ⟨h1, h2⟩ := l.ni b ⟨nb.1, by simp [hb, nb.2]⟩ (by rw [upd_ne hb]; exact h)
    exact ⟨⟨h1.1, nb.2⟩, h2⟩
  · have hb' := ne b h
    rw [l.kh b (List.mem_cons_of_mem _ hb) (by rw [upd_ne hb']; exact h), upd_ne hb']
/-- the hidden thing is changed -/
theorem Le.grow {ρ : Wd} {a : Addr} {H : Hp} {u u' : HO} (hn : H a = none) {ρ' : Wd} {H' : Hp} {w : HO} (hw : H' a = some w) (nt : NoT w) (nv : a ∉ ρ'.v) (l : Le G ⟨ρ.v, a :: ρ.h⟩ (L2.upd H a u) ρ' H') : Le G ⟨ρ.v, a :: ρ.h⟩ (L2.upd H a u') ρ' (L2.upd H' a u') := by
  have e : ρ'.h = a :: ρ.h := l.hid
  have up : ∀ b, b ≠ a → L2.upd H a u' b = L2.upd H a u b := fun b hb => by rw [upd_ne hb, upd_ne hb]
  have nn : ∀ b, (⟨ρ.v, a :: ρ.h⟩ : Wd).no b → b ≠ a := fun b nb z => nb.2 (by rw [z]; exact List.mem_cons_self)
  refine ⟨l.pre, l.hid, fun b xs t h => ?_, fun b xs nb h => ?_, fun b v nb dk h => ?_, fun b nb h => ?_, fun b hb h => ?_, fun b o v h => ?_⟩
  · by_cases hb : b = a
    · subst hb
      rw [upd_same] at h
      rw [upd_same]
      exact h
    · rw [up b hb] at h
      rw [upd_ne hb]
      exact l.tk b xs t h
  · rw [up b (nn b nb)] at h
    rw [upd_ne (nn b nb)]
    exact l.kl b xs nb h
  · have hb := nn b nb
    have h' : Rd (L2.upd H a u) b v := by
      rcases h with h | ⟨o, h⟩
      · exact .inl (by rw [← up b hb]; exact h)
      · exact .inr ⟨o, by rw [← up b hb]; exact h⟩
    rcases l.kp b v nb dk h' with h | ⟨o, h⟩
    · exact .inl (by rw [upd_ne hb]; exact h)
    · exact .inr ⟨o, by rw [upd_ne hb]; exact h⟩
  · have hb := nn b nb
    rw [up b hb] at h
    obtain ⟨h1, h2⟩ := l.ni b nb h
    exact ⟨h1, by rw [upd_ne hb]; exact h2⟩
  · by_cases hba : b = a
    · subst hba
      rw [upd_same, upd_same]
    · rw [up b hba] at h
      rw [upd_ne hba, up b hba]
      exact l.kh b hb h
  · by_cases hba : b = a
    · subst hba
      rw [upd_same] at h
      rw [upd_same]
      exact h
    · rw [up b hba] at h
      rw [upd_ne hba]
      exact l.kz b o v h
/-- a comprehension's loop: its own list at Dl is hidden while it grows -/
theorem lc_read {mi : MI} {t : TgN} {mt : MT} {me : ME} {vs : List Nat} {n : Nat} {K : PySem.W.Frag} (hv : ∀ i ∈ t.slots, i ∈ vs) {σ : St} {H : Hp} {Q : VK} {ρ : Wd} {σs : En} {S : Store} (fin : List D → Store → Res D) (rl : Rl G ρ S H) (re : RE G ρ H σs σ)
    (hf : ∀ (ρ' : Wd) (H' : Hp) (S' : Store) (ds : List D) (xs : List V) (Dl : Addr), Rl G ρ' S' H' → H' Dl = some (.lst xs) → ρ'.no Dl → RVs G ρ' H' ds xs → Post G ρ' H' (fin ds S') Q (EW W σ) → Q (.ref Dl) H')
    (p : Post G ρ H ((mi σs S).bind fun src S1 => (lcGo src t mt me (wipeD σs vs) n 0 [] S1).bind fin) Q (EW W σ)) :
    tLc (tmi G W mi) (t.tg K) (tmt G W0 mt) (tm G W0 me) vs σ H Q := by
  refine ⟨ρ, σs, S, rl, re, PostR.bind (R := JR G) p fun ρ1 H1 S1 src J l1 rl1 jr p1 => ?_⟩
  intro Dl hD
  have re1 := re.mono l1
  -- what stands at each turn
  refine ⟨fun i m H => ∃ ρ S acc xs, Le G ⟨ρ1.v, Dl :: ρ1.h⟩ (L2.upd H1 Dl (.lst xs)) ρ H ∧ Rl G ρ S H ∧ H Dl = some (.lst xs) ∧ RVs G ρ H acc xs ∧ Post G ρ1 H1 ((lcGo src t mt me (wipeD σs vs) m i acc S).bind fin) Q (EW W σ),
    ⟨n, ⟨ρ1.v, Dl :: ρ1.h⟩, S1, [], [], Le.refl, rl1.hide hD, upd_same, .nil, p1⟩, ?_⟩
  rintro i m H2 ⟨ρ2, S2, acc, xs, l3, rl2, hDl, ra, p2⟩
  have hid : ρ2.h = Dl :: ρ1.h := l3.hid
  have hh1 : ∀ b, b ∈ ρ1.h → H1 b ≠ none := fun b hb => (rl1.hh b hb).2.ne
  have lo : Le G ρ1 H1 ⟨ρ2.v, ρ1.h⟩ H2 := Le.hide hD hh1 l3
  have e2 : ρ2 = ⟨ρ2.v, Dl :: ρ1.h⟩ := by rw [← hid]
  have rlo : Rl G ⟨ρ2.v, ρ1.h⟩ S2 H2 := by rw [e2] at rl2; exact Rl.unhide (ρ := ⟨ρ2.v, ρ1.h⟩) rl2
  have nDv : Dl ∉ ρ2.v := (rl2.hh Dl (by rw [hid]; simp)).1
  have nDh : Dl ∉ ρ1.h := fun z => hh1 Dl z hD
  cases m with
  | zero => exact False.elim p2
  | succ m =>
    obtain ⟨j1, j2⟩ := jr ρ2 S2 H2 ((Mv.hide hD).trans l3.mv) (fun a o u q => l3.kz a o u (by rw [upd_ne (ne_of_none q hD)]; exact q)) rl2 i
    unfold lcGo at p2
    cases q : src i S2 with
    | none => simp only [q] at p2; exact False.elim p2
    | some o =>
      cases o with
      | none =>
        simp only [q] at p2
        refine .inl ⟨j2 q, hf ⟨ρ2.v, ρ1.h⟩ H2 S2 acc xs Dl rlo hDl ⟨nDv, nDh⟩ ?_ (PostR.le p2 lo)⟩
        rw [e2] at ra
        exact ra.move (Mv.unhide (ρ := ⟨ρ2.v, ρ1.h⟩))
      | some d =>
        simp only [q] at p2
        obtain ⟨go, yl⟩ := j1 d q
        refine .inr ⟨go, fun H => ∃ ρ S acc xs, Le G ⟨ρ1.v, Dl :: ρ1.h⟩ (L2.upd H1 Dl (.lst xs)) ρ H ∧ Rl G ρ S H ∧ H Dl = some (.lst xs) ∧ RVs G ρ H acc xs ∧ Post G ρ1 H1 ((lcGo src t mt me (wipeD σs vs) m (i + 1) acc S).bind fin) Q (EW W σ),
          fun H' w => ⟨m, Nat.lt_succ_self m, w⟩, fun x H3 hy => ?_⟩
        obtain ⟨l4, rl3, rv3⟩ := yl x H3 hy
        have mD : Dl ∈ ρ2.h := by rw [hid]; simp
        have hD3 : H3 Dl = some (.lst xs) := by rw [l4.kh Dl mD (by rw [hDl]; simp)]; exact hDl
        cases q1 : t.put d (wipeD σs vs) with
        | none => simp only [q1] at p2; exact False.elim p2
        | some σ2 =>
          simp only [q1] at p2
          have reh : RE G ρ2 H3 σs σ := (re1.move ((Mv.hide hD).trans l3.mv)).mono l4
          refine put_go rv3 (reh.wipe vs) q1 vs hv fun σ' re' e' => ⟨by rw [e', wipe_wipe], ρ2, σ2, S2, rl3, re', ?_⟩
          cases q2 : mt σ2 S2 with
          | exc xx S3 => simp only [q2] at p2; exact False.elim p2
          | bad => simp only [q2] at p2; exact False.elim p2
          | ok b S3 =>
            intro ρ4 H4 b' l5 rl4 eb
            subst eb
            have mD4 : Dl ∈ ρ4.h := by rw [l5.hid]; exact mD
            have hD4 : H4 Dl = some (.lst xs) := by rw [l5.kh Dl mD (by rw [hD3]; simp)]; exact hD3
            cases b with
            | false =>
              simp only [q2] at p2
              show if false = true then _ else _
              rw [if_neg Bool.false_ne_true]
              exact ⟨ρ4, S3, acc, xs, (l3.trans l4).trans l5, rl4, hD4, ra.mono (l4.trans l5), p2⟩
            | true =>
              simp only [q2] at p2
              show if true = true then _ else _
              rw [if_pos rfl]
              refine ⟨ρ4, σ2, S3, rl4, re'.mono l5, ?_⟩
              cases q3 : me σ2 S3 with
              | exc xx S4 => simp only [q3] at p2; exact False.elim p2
              | bad => simp only [q3] at p2; exact False.elim p2
              | ok y S4 =>
                simp only [q3] at p2
                intro ρ5 H5 yv l6 rl5 ry
                have mD5 : Dl ∈ ρ5.h := by rw [l6.hid]; exact mD4
                have hD5 : H5 Dl = some (.lst xs) := by rw [l6.kh Dl mD4 (by rw [hD4]; simp)]; exact hD4
                have nv5 : Dl ∉ ρ5.v := (rl5.hh Dl mD5).1
                by_cases hl : acc.length < lim
                · rw [if_pos hl] at p2
                  refine ⟨xs, hD5, by rw [← ra.length]; exact lim_lt hl, ρ5, S4, acc ++ [y], xs ++ [yv], ?_, rl5.grow hD5 trivial mD5, upd_same, ?_, p2⟩
                  · exact Le.grow hD hD5 trivial nv5 (((l3.trans l4).trans l5).trans l6)
                  · exact ((ra.mono ((l4.trans l5).trans l6)).append (.cons ry .nil)).move (Mv.grow hD5 trivial mD5)
                · rw [if_neg hl] at p2
                  exact False.elim p2
/-- [elt for t in iter if ..], nobody changes it -/
theorem se_lcv {elt tg iter : Expr} {ifs : List Expr} {scope : Scope} {own : List (Str × Nat)} {pos : Pos} {mi : MI} {t : TgN} {mt : MT} {me : ME} (n : Nat) (cc : Cc G X W) (hi : SI G X W tg iter mi) (ok : BlkOk X.N X.env.scope scope own) (hv : ∀ i ∈ t.slots, i ∈ own.map (·.2))
    (hg : ∀ (s : Shared) (H : Hp) (C : Addr) (cl : List (Str × Addr)) (fp : List Addr), PG (X.blk s H scope (compEnvC scope cl C X.env) fp) tg (t.tg X.K)) (ht : ∀ (s : Shared) (H : Hp) (C : Addr) (cl : List (Str × Addr)) (fp : List Addr), PTs (X.blk s H scope (compEnvC scope cl C X.env) fp) ifs (tmt G W0 mt))
    (he : ∀ (s : Shared) (H : Hp) (C : Addr) (cl : List (Str × Addr)) (fp : List Addr), SE G (X.blk s H scope (compEnvC scope cl C X.env) fp) W0 elt me) (hs : ∀ x, foldedSetIterable iter X.env x = pure x := by intro _; rfl) :
    SE G X W (.ListComp elt [⟨tg, iter, ifs, 0⟩] scope pos) (eLcV mi t mt me (own.map (·.2)) n) :=
  se_of (pe_lc cc.calm cc.nd hi ok hg ht he hs) fun σ H Q ρ σs S rl re p => lc_read hv (fun ds S2 => .ok (.lv ds) S2) rl re (fun ρ' H' S' ds xs Dl rl' h1 h2 h3 p' => post_ok (S := S') p' rl' (.lv h2 h1 h3)) p
end
end L2.Mi

set_option Elab.async false
set_option linter.all false
set_option maxRecDepth 100000
set_option maxHeartbeats 4000000
set_option Elab.async false
set_option linter.all false
set_option maxRecDepth 100000
set_option maxHeartbeats 4000000
namespace L2.Mi
open PySem PySem.Spec PyProof.Rows
abbrev Fg := PySem.W.Frag
theorem ba {a b : Bool} (h : (a && b) = true) : a = true ∧ b = true := Bool.and_eq_true_iff.mp h
/-- the value u is the constant d: tuples and lists by their items -/
def kvB (K : Fg) : Nat → D → Value → Bool
  | 0, _, _ => false
  | n + 1, d, u => match d, u with
    | .non, .none => true
    | .bl b, .bool c => b == c
    | .int i, .int j _ => decide (i = j)
    | .str x, .str y _ => decide (y.cps.toList = x)
    | .ty t, .type m => decide (t = m)
    | .kt ds, .ref a => (match K.lookup a with
      | some ⟨.type c, _, .seq its _, _⟩ => decide (c = "tuple") && (decide (its.size ≤ sizeLine) && (decide (ds.length = its.toList.length) && (ds.zip its.toList).all fun q => kvB K n q.1 q.2))
      | _ => false)
    | .fl ds, .ref a => (match K.lookup a with
      | some ⟨.type c, none, .seq its _, _⟩ => decide (c = "list") && (decide (its.size ≤ sizeLine) && (decide (ds.length = its.toList.length) && (ds.zip its.toList).all fun q => kvB K n q.1 q.2))
      | _ => false)
    | _, _ => false
section
variable {G : Gx}
theorem kv_all {P : D → Value → Prop} (h : ∀ d u, P d u → ∃ x, RelV x u ∧ ∀ ρ H, RV G ρ H d x) : ∀ {ds : List D} {us : List Value}, ds.length = us.length → (∀ q ∈ ds.zip us, P q.1 q.2) → ∃ xs, Vals xs us ∧ ∀ ρ H, RVs G ρ H ds xs
  | [], [], _, _ => ⟨[], .nil, fun _ _ => .nil⟩
  | [], _ :: _, e, _ => by cases e
  | _ :: _, [], e, _ => by cases e
  | d :: ds, u :: us, e, k => by
    obtain ⟨x, r1, r2⟩ := h d u (k (d, u) (by simp))
    obtain ⟨xs, s1, s2⟩ := kv_all (P := P) h (ds := ds) (us := us) (by simpa using e) fun q hq => k q (by simp [hq])
    exact ⟨x :: xs, .cons r1 s1, fun ρ H => .cons (r2 ρ H) (s2 ρ H)⟩
theorem kvB_ok : ∀ (n : Nat) (d : D) (u : Value), kvB G.K n d u = true → ∃ x, RelV x u ∧ ∀ ρ H, RV G ρ H d x
  | 0, _, _, h => by cases h
  | n + 1, d, u, h => by
    unfold kvB at h
    split at h
    · exact ⟨.non, rfl, fun _ _ => .non⟩
    · rename_i b c
      have e : b = c := eq_of_beq h
      subst e
      exact ⟨.bl b, rfl, fun _ _ => .bl b⟩
    · rename_i i j t
      have e : i = j := of_decide_eq_true h
      subst e
      exact ⟨.int i, ⟨t, rfl⟩, fun _ _ => .int i⟩
    · rename_i x y t
      have e : y.cps.toList = x := of_decide_eq_true h
      subst e
      exact ⟨.str y, ⟨t, rfl⟩, fun _ _ => rv_str y⟩
    · rename_i t m
      have e : t = m := of_decide_eq_true h
      subst e
      exact ⟨.ty t, rfl, fun _ _ => .ty t⟩
    · rename_i ds a
      split at h
      · rename_i c od its m sl q
        obtain ⟨h1, h⟩ := ba h
        obtain ⟨h2, h⟩ := ba h
        obtain ⟨h3, h4⟩ := ba h
        obtain ⟨xs, r1, r2⟩ := kv_all (G := G) (P := fun d u => kvB G.K n d u = true) (kvB_ok n) (of_decide_eq_true h3) fun q hq => List.all_eq_true.mp h4 q hq
        exact ⟨.ref a, rfl, fun ρ H => .kt (.inr ⟨_, its, m, q, congrArg Value.type (of_decide_eq_true h1), rfl, of_decide_eq_true h2, r1⟩) (r2 ρ H)⟩
      · cases h
    · rename_i ds a
      split at h
      · rename_i c its m sl q
        obtain ⟨h1, h⟩ := ba h
        obtain ⟨h2, h⟩ := ba h
        obtain ⟨h3, h4⟩ := ba h
        obtain ⟨xs, r1, r2⟩ := kv_all (G := G) (P := fun d u => kvB G.K n d u = true) (kvB_ok n) (of_decide_eq_true h3) fun q hq => List.all_eq_true.mp h4 q hq
        exact ⟨.ref a, rfl, fun ρ H => .fl (.inr (.inr ⟨_, its, m, q, congrArg Value.type (of_decide_eq_true h1), rfl, rfl, of_decide_eq_true h2, r1⟩)) (r2 ρ H)⟩
      · cases h
    · cases h
end
def pgA (K : Fg) (C : Str) (f : Str) : Addr := match PySem.W.recIn K (He.ma K (He.ga K C) f) "property" with
  | some (.ref g :: _) => g
  | _ => 0
def cgA (K : Fg) (C : Str) (f : Str) : Addr := match PySem.W.recIn K (He.ma K (He.ga K C) f) "classmethod" with
  | some (.ref g :: _) => g
  | _ => 0
inductive Pth where
  | g (x : Str) | m (C x : Str) | p (C x : Str) | c (C x : Str)
def Pth.ad (K : Fg) : Pth → Addr
  | .g x => He.ga K x
  | .m C x => He.ma K (He.ga K C) x
  | .p C x => pgA K C x
  | .c C x => cgA K C x
structure DefM where
  pth : Pth
  name : Str
  qual : Str
  st : Stmt
  dfl : List D := []
def DefM.val (d : DefM) : He.FnW := some (d.name, d.qual, defArgs d.st, .stmts (defBody d.st), defScope d.st, mainGlobals, [], builtinsNs)
def dfB (K : Fg) (dV : Value) (ds : List D) : Bool := match ds with
  | [] => (match dV with | .none => true | _ => false)
  | ds => (match dV with
    | .ref T => (match K.lookup T with
      | some ⟨_, _, .seq its _, _⟩ => decide (ds.length = its.toList.length) && (ds.zip its.toList).all fun q => kvB K 8 q.1 q.2
      | _ => false)
    | _ => false)
def DefM.ok (K : Fg) (d : DefM) : Bool := PySem.W.keepIn K (.ref (d.pth.ad K)) && (match K.lookup (d.pth.ad K) with
  | some ⟨_, _, .func fd, _⟩ => PySem.W.codeIn K fd.code d.qual && dfB K fd.defaults d.dfl
  | _ => false)
def fnM (K : Fg) (a : Addr) : He.FnW := match K.lookup a with
  | some ⟨_, _, .func fd, _⟩ => some (fd.name, fd.qualname, fd.params, fd.body, fd.scope, fd.globals, fd.closure, fd.builtins)
  | _ => none
theorem dfB_ok {G : Gx} {dV : Value} {ds : List D} (h : dfB G.K dV ds = true) : ∃ dvs, DflV G.K dV dvs ∧ ∀ ρ H, RVs G ρ H ds dvs := by
  unfold dfB at h
  split at h
  · split at h
    · exact ⟨[], .inl ⟨rfl, rfl⟩, fun _ _ => .nil⟩
    · cases h
  · rename_i hne
    split at h
    · rename_i T
      split at h
      · rename_i oc od its m sl q
        obtain ⟨h1, h2⟩ := ba h
        obtain ⟨xs, r1, r2⟩ := kv_all (G := G) (P := fun d u => kvB G.K 8 d u = true) (kvB_ok 8) (of_decide_eq_true h1) fun q hq => List.all_eq_true.mp h2 q hq
        refine ⟨xs, .inr ⟨fun e => ?_, T, _, its.toList, m, rfl, q, by simp, r1⟩, r2⟩
        subst e
        have z := (r2 ⟨[], []⟩ fun _ => none).length
        cases ds with
        | nil => exact hne rfl
        | cons _ _ => cases z
      · cases h
    · cases h
/-- a def as the walk takes it -/
structure FnM (G : Gx) (d : DefM) where
  fd : FuncData
  dvs : List V
  F : FunD G.K d.name d.qual (defArgs d.st) (defBody d.st) (defScope d.st) dvs [] (d.pth.ad G.K) fd
  rd : ∀ ρ H, RVs G ρ H d.dfl dvs
theorem fnM_ok {G : Gx} {d : DefM} (e : fnM G.K (d.pth.ad G.K) = d.val) (c : d.ok G.K = true) : Nonempty (FnM G d) := by
  obtain ⟨kp, c2⟩ := ba c
  unfold fnM at e
  cases q : G.K.lookup (d.pth.ad G.K) with
  | none => rw [q] at c2; cases c2
  | some o =>
    obtain ⟨oc, od, dt, osl⟩ := o
    rw [q] at c2 e
    cases dt with
    | func fd =>
      obtain ⟨n1, n2, n3, n4, n5, n6, n7, n8, n9, n10, n11, n12, n13, n14, n15⟩ := fd
      have e2 : (some (n1, n2, n3, n4, n5, n6, n7, n15) : He.FnW) = some (d.name, d.qual, defArgs d.st, .stmts (defBody d.st), defScope d.st, mainGlobals, [], builtinsNs) := e
      simp only [Option.some.injEq, Prod.mk.injEq] at e2
      obtain ⟨h1, h2, h3, h4, h5, h6, h7, h8⟩ := e2
      subst h1 h2 h3 h4 h5 h6 h7 h8
      obtain ⟨k1, k2⟩ := ba (show (PySem.W.codeIn G.K n13 d.qual && dfB G.K n8 d.dfl) = true from c2)
      obtain ⟨dvs, k3, k4⟩ := dfB_ok k2
      exact ⟨⟨_, dvs, ⟨⟨oc, od, n8, n9, n10, n11, n12, n13, n14, osl, rfl, q, k1, k3, .inl rfl⟩, kp⟩, k4⟩⟩
    | _ => cases c2
/-- between n less the defaults and n arguments -/
def callD (n : Nat) (dfl : List D) (m : FN) : FN := fun xs S => if xs.length ≤ n ∧ n ≤ xs.length + dfl.length then m (xs ++ dfl.drop (dfl.length + xs.length - n)) S else .bad
theorem RVs.drop {G : Gx} {ρ : Wd} {H : Hp} : ∀ (n : Nat) {ds : List D} {xs : List V}, RVs G ρ H ds xs → RVs G ρ H (ds.drop n) (xs.drop n)
  | 0, _, _, r => r
  | _ + 1, _, _, .nil => .nil
  | n + 1, _, _, .cons _ t => RVs.drop n t
theorem cal_defD {G : Gx} {P : Program} {w : World} {mg : Str → Option Value} {base : Heap} {k : Nat} {f : Addr} {fd : FuncData} {ps : List Str} {m : FN} {n : Nat} {dvs : List V} {dfl : List D}
    (F : FnOk P w G.K mg base (L2.CX P w) k f fd ps (spF G m n)) (hn : n = ps.length) (hb : ∀ j, j ≤ dvs.length → ∃ ds, Vals (dvs.drop j) ds ∧ Binds G.K fd ps ds) (hdd : ∀ ρ H, RVs G ρ H dfl dvs) : Cal G P w mg base k f (callD n dfl m) := by
  intro A outer s H us vs Q E hr e0 r h
  obtain ⟨ρ, S, es, rl, rv, p⟩ := h
  unfold callD at p
  by_cases hl : es.length ≤ n ∧ n ≤ es.length + dfl.length
  · rw [if_pos hl] at p
    have hle := (hdd ρ H).length
    obtain ⟨ds, hd, hbi⟩ := hb (dfl.length + es.length - n) (by omega)
    have hlen : vs.length + (dvs.drop (dfl.length + es.length - n)).length = n := by rw [← rv.length, List.length_drop]; omega
    have KX : G.K.In s.heap := e0.mod.kin.keeps fun b o e => (e0.bs b o e).1
    refine F.run A outer s H ⟨us, []⟩ (us ++ ds) (vs ++ dvs.drop (dfl.length + es.length - n)) Q E hr e0 (hbi s us KX ?_) (r.append hd) ⟨ρ, S, _, ?_, rl, rv.append ((hdd ρ H).drop _), p⟩
    · rw [List.length_append, ← r.length, ← hd.length, ← hn]; exact hlen
    · rw [List.length_append]; exact hlen
  · rw [if_neg hl] at p
    exact p.elim
inductive Fm where
  | glo (x : Str) | free (x : Str) | con (x : Str) (d : D)
  | cls (C : Str) | noat (C f : Str) | meth (C m : Str) | mkr (C : Str) | prop (C f : Str)
  | bin (C : Str) (o : Operator) | un (C m : Str) | ne (C : Str) | callo (C : Str)
  | oex (C : Str) | exm (A B : Str) (b : Bool)
  | raw (p : Fg → Bool)
/-- an own class over ValueError, with a dict -/
def oexO (K : Fg) (C : Addr) : Bool := match K.lookup C with
  | some ⟨.type t, _, .cls cd, sl⟩ => (match cd.mro, sl.toList with
    | .ref C' :: bm, [_, _, _, _, some (.builtin n), _] => decide (t = "type") && (decide (C' = C) && (decide (n = "ValueError.__new__") && (!cd.hasDel && (cd.hasDict && PySem.HandSPX.refsVE bm))))
    | _, _ => false)
  | _ => false
def clB (K : Fg) (C : Addr) : Bool := PySem.W.plainGet K C Str.empty && (PySem.W.hasDictIn K C && (PySem.W.plainOver K C && (He.eqO (PySem.W.findIn K (.ref C) "__setattr__") (some (some (.builtin "object.__setattr__"))) &&
  (He.eqO (PySem.W.findIn K (.ref C) "__class__") (some (some (.builtin "object.__class__"))) && (He.eqO (PySem.W.specialIn K (.builtin "object.__class__") "__get__") (some (some (.builtin "getset_descriptor.__get__"))) &&
  (decide (PySem.W.takesIn K (.builtin "object.__class__") = some true) && decide (PySem.W.mroIn K C (.type "object") = some true)))))))
theorem clB_ok {K : Fg} {C : Addr} (h : clB K C = true) : CI K C := by
  obtain ⟨h1, h⟩ := ba h
  obtain ⟨h2, h⟩ := ba h
  obtain ⟨h3, h⟩ := ba h
  obtain ⟨h4, h⟩ := ba h
  obtain ⟨h5, h⟩ := ba h
  obtain ⟨h6, h⟩ := ba h
  obtain ⟨h7, h8⟩ := ba h
  exact ⟨⟨h1, h2, h3, He.eqO_ok h4⟩, He.eqO_ok h5, He.eqO_ok h6, of_decide_eq_true h7, of_decide_eq_true h8⟩
def fnAt (K : Fg) (C : Addr) (m : Str) : Bool := He.eqO (PySem.W.findIn K (.ref C) m) (some (some (.ref (He.ma K C m)))) && PySem.W.isFn K (.ref (He.ma K C m))
theorem fnAt_ok {K : Fg} {C : Addr} {m : Str} (h : fnAt K C m = true) : PySem.W.findIn K (.ref C) m = some (some (.ref (He.ma K C m))) ∧ PySem.W.isFn K (.ref (He.ma K C m)) = true := by
  obtain ⟨h1, h2⟩ := ba h
  exact ⟨He.eqO_ok h1, h2⟩
def refNone : Option (Option Value) → Bool
  | some none => true
  | some (some (.ref _)) => true
  | _ => false
theorem refNone_ok {o : Option (Option Value)} (h : refNone o = true) : ∃ rc, o = some rc ∧ (rc = none ∨ ∃ g : Addr, rc = some (.ref g)) := by
  unfold refNone at h
  split at h
  · exact ⟨_, rfl, .inl rfl⟩
  · exact ⟨_, rfl, .inr ⟨_, rfl⟩⟩
  · cases h
def Fm.ok (K : Fg) : Fm → Bool
  | .glo x => He.eqO (PySem.W.nsIn K mainGlobals x) (some (some (.ref (He.ga K x)))) && PySem.W.keepIn K (.ref (He.ga K x))
  | .free x => He.eqO (PySem.W.nsIn K mainGlobals x) (some none)
  | .con x d => (match PySem.W.nsIn K mainGlobals x with | some (some u) => kvB K 8 d u | _ => false)
  | .cls C => clB K (He.ga K C)
  | .noat C f => He.eqO (PySem.W.findIn K (.ref (He.ga K C)) f) (some none)
  | .meth C m => fnAt K (He.ga K C) m && PySem.W.keepIn K (.ref (He.ma K (He.ga K C) m))
  | .mkr C => PySem.W.makesIn K (He.ga K C) && (fnAt K (He.ga K C) "__init__" && PySem.W.keepIn K (.ref (He.ga K C)))
  | .prop C f => He.eqO (PySem.W.findIn K (.ref (He.ga K C)) f) (some (some (.ref (He.ma K (He.ga K C) f)))) && (He.eqO (PySem.W.specialIn K (.ref (He.ma K (He.ga K C) f)) "__get__") (some (some (.builtin "property.__get__"))) &&
    (decide (PySem.W.takesIn K (.ref (He.ma K (He.ga K C) f)) = some true) && (match PySem.W.recIn K (He.ma K (He.ga K C) f) "property" with | some (.ref _ :: _) => true | _ => false)))
  | .bin C o => PySem.W.selfFirst K (He.ga K C) && (fnAt K (He.ga K C) (PySem.dunder o.info.2) && (refNone (PySem.W.findIn K (.ref (He.ga K C)) (dunderR o.info.2)) && ((PySem.W.findIn K (.type "int") (PySem.dunder o.info.2)).isSome &&
    ((PySem.W.findIn K (.type "int") (dunderR o.info.2)).isSome && decide (PySem.W.subIn K (.type "int") (.ref (He.ga K C)) = some false)))))
  | .un C m => fnAt K (He.ga K C) m
  | .ne C => He.eqO (PySem.W.findIn K (.ref (He.ga K C)) "__ne__") (some (some (.builtin "object.__ne__"))) && fnAt K (He.ga K C) "__eq__"
  | .callo C => fnAt K (He.ga K C) "__call__" && PySem.W.fnIn K (He.ma K (He.ga K C) "__call__")
  | .oex C => oexO K (He.ga K C) && (He.eqO (PySem.W.findIn K (.ref (He.ga K C)) "__setattr__") (some (some (.builtin "object.__setattr__"))) && (decide (PySem.W.subIn K (.ref (He.ga K C)) (.type "BaseException") = some true) &&
    (decide (PySem.W.typeIn K (.ref (He.ga K C)) = some (.type "type")) && (PySem.W.keepIn K (.ref (He.ga K C)) && (fnAt K (He.ga K C) "__init__" && xfB K (He.ga K C))))))
  | .raw p => p K
  | .exm A B b => decide (PySem.W.exmOne K (.ref (He.ga K A)) (.ref (He.ga K B)) = some b)
structure Lw where
  cls : List Str
  flds : List Str
  isi : List (Tag × Tag × Bool)
  xcl : List Str
  defs : List DefM
  fa : List Fm
  /-- the def whose table of code objects grows, and its code objects' name -/
  tab : Option (Str × Str) := none
  /-- the law's lambdas -/
  lams : List (Str × Arguments × Expr × Scope) := []
  /-- dicts of the top, as values: numbers from 1000 -/
  kd : List Str := []
  fok : (decide flds.Nodup && flds.all fun x => decide (x.cps.size ≠ 1) || x.cps.all fun c => decide (c < 2000000)) = true
def fldOf (l : List Str) (i : Nat) : Str := match l[i]? with | some x => x | none => ⟨#[2000000 + i]⟩
theorem fldOf_inj {l : List Str} (h : (decide l.Nodup && l.all fun x => decide (x.cps.size ≠ 1) || x.cps.all fun c => decide (c < 2000000)) = true) (i j : Nat) (e : fldOf l i = fldOf l j) : i = j := by
  obtain ⟨h1, h2⟩ := ba h
  have nd : l.Nodup := of_decide_eq_true h1
  have odd : ∀ x ∈ l, ∀ k, x ≠ ⟨#[2000000 + k]⟩ := fun x hx k ex => by
    have z := List.all_eq_true.mp h2 x hx
    rw [ex] at z
    simp at z
    omega
  unfold fldOf at e
  cases q : l[i]? with
  | some x =>
    cases q2 : l[j]? with
    | some y =>
      rw [q, q2] at e
      have e' : x = y := e
      subst e'
      obtain ⟨a1, e1⟩ := List.getElem?_eq_some_iff.mp q
      obtain ⟨a2, e2⟩ := List.getElem?_eq_some_iff.mp q2
      have pw := List.pairwise_iff_getElem.mp nd
      rcases Nat.lt_trichotomy i j with h | h | h
      · exact absurd (e1.trans e2.symm) (pw i j a1 a2 h)
      · exact h
      · exact absurd (e2.trans e1.symm) (pw j i a2 a1 h)
    | none =>
      rw [q, q2] at e
      exact absurd e (odd x (List.mem_of_getElem? q) j)
  | none =>
    cases q2 : l[j]? with
    | some y =>
      rw [q, q2] at e
      exact absurd e.symm (odd y (List.mem_of_getElem? q2) i)
    | none =>
      rw [q, q2] at e
      have e' : (⟨#[2000000 + i]⟩ : Str) = ⟨#[2000000 + j]⟩ := e
      simp at e'
      exact e'
def Lw.clsA (L : Lw) (K : Fg) (c : Nat) : Option Addr := (L.cls[c]?).map (He.ga K)
def Lw.isiF (L : Lw) (t u : Tag) : Option Bool := (L.isi.find? fun q => q.1 == t && q.2.1 == u).map (·.2.2)
def Lw.isiB (L : Lw) (K : Fg) : Bool := L.isi.all fun q => match tagVal (L.clsA K) q.1, tagVal (L.clsA K) q.2.1 with
  | some a, some b => decide (PySem.W.kitOne K a b = some q.2.2)
  | _, _ => true
def Lw.ex (L : Lw) (K : Fg) : Bool := (L.fa.all fun f => f.ok K) && (L.isiB K && ((L.cls.all fun x => clB K (He.ga K x)) && L.defs.all fun d => d.ok K))
abbrev AlM : Type := Bool × List He.FnW
def Lw.obs (L : Lw) (K : Fg) : AlM := (L.ex K, L.defs.map fun d => fnM K (d.pth.ad K))
def Lw.vl (L : Lw) : AlM := (true, L.defs.map DefM.val)
def Lw.Says (L : Lw) (K : Fg) : Prop := L.obs K = L.vl
/-- what is looked at: all but the table that grows -/
def Lw.asL (L : Lw) (n : Nat) (g : Addr → Option Obj) : List Addr := match L.tab with
  | none => He5.asA g n
  | some p => match PySem.W.tabIn (He.frG g (He5.asA g n)) p.1 with
    | some q => (He5.asA g n).filter fun a => !(a == q.2)
    | none => He5.asA g n
def Lw.obsG (L : Lw) (n : Nat) (g : Addr → Option Obj) : AlM := L.obs (He.frG g (L.asL n g))
section
variable {L : Lw} {K : Fg}
theorem Lw.Says.all (c : L.Says K) : L.ex K = true := congrArg (fun z : AlM => z.1) c
theorem Lw.Says.fact (c : L.Says K) (i : Nat) {f : Fm} (h : L.fa[i]? = some f) : f.ok K = true := List.all_eq_true.mp (ba c.all).1 f (List.mem_of_getElem? h)
theorem Lw.Says.ci (c : L.Says K) (i : Nat) (C : Addr) (h : L.clsA K i = some C) : CI K C := by
  unfold Lw.clsA at h
  cases q : L.cls[i]? with
  | none => rw [q] at h; cases h
  | some x =>
    rw [q] at h
    cases h
    exact clB_ok (List.all_eq_true.mp (ba (ba (ba c.all).2).2).1 x (List.mem_of_getElem? q))
theorem Lw.Says.isi (c : L.Says K) (t u : Tag) (b : Bool) (tv uv : Value) (h : L.isiF t u = some b) (h1 : tagVal (L.clsA K) t = some tv) (h2 : tagVal (L.clsA K) u = some uv) : PySem.W.kitOne K tv uv = some b := by
  unfold Lw.isiF at h
  cases q : L.isi.find? fun q => q.1 == t && q.2.1 == u with
  | none => rw [q] at h; cases h
  | some z =>
    rw [q] at h
    have hb : z.2.2 = b := by simpa using h
    have hz := List.find?_some q
    have hm := List.mem_of_find?_eq_some q
    obtain ⟨e1, e2⟩ := ba hz
    have e1 := eq_of_beq e1
    have e2 := eq_of_beq e2
    have hk := List.all_eq_true.mp (ba (ba c.all).2).1 z hm
    rw [e1, e2, h1, h2] at hk
    rw [of_decide_eq_true hk, hb]
/-- the tables -/
def Lw.tabsA (L : Lw) (K : Fg) : List (Addr × Str) := match L.tab with
  | none => []
  | some p => match PySem.W.tabIn K p.1 with
    | some q => [(q.2, p.2)]
    | none => []
def Lw.gx (L : Lw) (K : Fg) (c : L.Says K) : Gx where
  K := K
  tabs := L.tabsA K
  fns := fun i => ((L.defs[i]?).map fun d => d.pth.ad K).orElse fun _ => (L.kd[i - 1000]?).map (He.ga K)
  lams := fun i => L.lams[i]?
  cls := L.clsA K
  fld := fldOf L.flds
  inj := fldOf_inj L.fok
  clsv := fun i => (L.xcl[i]?).map fun C => .ref (He.ga K C)
  ci := c.ci
  isi := L.isiF
  isi_ok := c.isi
theorem Lw.gx_tabs (L : Lw) {K : Fg} {c : L.Says K} (h : L.tab = none) : (L.gx K c).tabs = [] := by
  show L.tabsA K = []
  unfold Lw.tabsA
  rw [h]
theorem Lw.Says.fn (c : L.Says K) (i : Nat) {d : DefM} (h : L.defs[i]? = some d) : Nonempty (FnM (L.gx K c) d) := by
  have e : L.defs.map (fun d => fnM K (d.pth.ad K)) = L.defs.map DefM.val := congrArg (fun z : AlM => z.2) c
  have e2 : (L.defs.map fun d => fnM K (d.pth.ad K))[i]? = (L.defs.map DefM.val)[i]? := by rw [e]
  rw [List.getElem?_map, List.getElem?_map, h] at e2
  exact fnM_ok (G := L.gx K c) (Option.some.inj e2) (List.all_eq_true.mp (ba (ba (ba c.all).2).2).2 d (List.mem_of_getElem? h))
end
end L2.Mi

set_option Elab.async false
set_option linter.all false
set_option maxRecDepth 100000
set_option maxHeartbeats 4000000
namespace L2.Mi
open PySem PySem.Spec PyProof.Rows
def lv : Nat → Nat
  | 0 => 2
  | n + 1 => lv n + 2
theorem lv_eq : ∀ n, lv n = 2 * n + 2
  | 0 => rfl
  | n + 1 => by unfold lv; rw [lv_eq n]; omega
/-- the module's names -/
def Ns (K : Fg) (mg : Str → Option Value) : Prop := ∃ h : Heap, K.In h ∧ h.Ns mainGlobals mg
section
variable {L : Lw} {K : Fg} {c : L.Says K} {mg : Str → Option Value} {x C f m : Str}
theorem Ns.glo (N : Ns K mg) (c : L.Says K) (i : Nat) (h : L.fa[i]? = some (.glo x) := by rfl) : mg x = some (.ref (He.ga K x)) := by
  obtain ⟨hp, kin, ns⟩ := N
  exact PySem.W.mg_of kin ns (He.eqO_ok (ba (c.fact i h)).1)
theorem keep_of (c : L.Says K) (i : Nat) (h : L.fa[i]? = some (.glo x) := by rfl) : PySem.W.keepIn K (.ref (He.ga K x)) = true := (ba (c.fact i h)).2
theorem Ns.free (N : Ns K mg) (c : L.Says K) (i : Nat) (h : L.fa[i]? = some (.free x) := by rfl) : mg x = none := by
  obtain ⟨hp, kin, ns⟩ := N
  exact PySem.W.mg_none_of kin ns (He.eqO_ok (c.fact i h))
theorem Ns.con (N : Ns K mg) (c : L.Says K) (i : Nat) {d : D} (h : L.fa[i]? = some (.con x d)) : ∃ u v, mg x = some u ∧ RelV v u ∧ ∀ ρ H, RV (L.gx K c) ρ H d v := by
  obtain ⟨hp, kin, ns⟩ := N
  have z := c.fact i h
  have z' : (match PySem.W.nsIn K mainGlobals x with | some (some u) => kvB K 8 d u | _ => false) = true := z
  cases q : PySem.W.nsIn K mainGlobals x with
  | none => rw [q] at z'; cases z'
  | some o =>
    cases o with
    | none => rw [q] at z'; cases z'
    | some u =>
      rw [q] at z'
      obtain ⟨v, r1, r2⟩ := kvB_ok (G := L.gx K c) 8 d u z'
      exact ⟨u, v, PySem.W.mg_of kin ns q, r1, r2⟩
theorem cls_of (c : L.Says K) (ci : Nat) (hc : L.cls[ci]? = some C) : (L.gx K c).cls ci = some (He.ga K C) := by
  show (L.cls[ci]?).map (He.ga K) = _
  rw [hc]
  rfl
theorem ci_of (c : L.Says K) (ci : Nat) (hc : L.cls[ci]? = some C) : CI K (He.ga K C) := c.ci ci _ (cls_of c ci hc)
theorem mk_of (c : L.Says K) (i : Nat) (h : L.fa[i]? = some (.mkr C)) : Mk K (He.ga K C) (He.ma K (He.ga K C) "__init__") := by
  obtain ⟨h1, z⟩ := ba (c.fact i h)
  obtain ⟨h2, h3⟩ := ba z
  obtain ⟨h4, h5⟩ := fnAt_ok h2
  exact ⟨h1, h4, h5, h3⟩
theorem meth_of (c : L.Says K) (i : Nat) (h : L.fa[i]? = some (.meth C m)) : Meth K (He.ga K C) m (He.ma K (He.ga K C) m) := by
  obtain ⟨h1, h2⟩ := ba (c.fact i h)
  obtain ⟨h4, h5⟩ := fnAt_ok h1
  exact ⟨h4, h5, h2⟩
section
variable {X : Cx} {W : WX} {g : FN} {k : Nat}
theorem fieldS (c : L.Says K) (ci i : Nat) (hc : L.cls[ci]? = some C) (h : L.fa[i]? = some (.noat C f)) (e : X.K = K := by rfl) : FieldS (L.gx K c) X f ci :=
  ⟨_, cls_of c ci hc, by rw [e]; exact (ci_of c ci hc).cl, by rw [e]; exact He.eqO_ok (c.fact i h)⟩
theorem methS (c : L.Says K) (ci i : Nat) (hc : L.cls[ci]? = some C) (h : L.fa[i]? = some (.meth C m)) (F : FnS (L.gx K c) X W (.ref (He.ma K (He.ga K C) m)) g) (e : X.K = K := by rfl) : MethS (L.gx K c) X W m ci g :=
  ⟨_, _, cls_of c ci hc, by rw [e]; exact (ci_of c ci hc).cl, by rw [e]; exact meth_of c i h, F⟩
theorem binS {o : Operator} (c : L.Says K) (ci i : Nat) (hc : L.cls[ci]? = some C) (h : L.fa[i]? = some (.bin C o)) (F : FnS (L.gx K c) X W (.ref (He.ma K (He.ga K C) (PySem.dunder o.info.2))) g) (e : X.K = K := by rfl) : OpClsS (L.gx K c) X W o ci g := by
  obtain ⟨h1, z⟩ := ba (c.fact i h)
  obtain ⟨h2, z⟩ := ba z
  obtain ⟨h3, z⟩ := ba z
  obtain ⟨h4, z⟩ := ba z
  obtain ⟨h5, h6⟩ := ba z
  obtain ⟨h7, h8⟩ := fnAt_ok h2
  obtain ⟨rc, h9, h10⟩ := refNone_ok h3
  refine ⟨_, _, rc, cls_of c ci hc, ?_, ?_, ?_, ?_, h10, ?_, ?_, ?_, F⟩
  · rw [e]; exact h1
  · rw [e]; exact h7
  · rw [e]; exact h8
  · rw [e]; exact h9
  · rw [e]; exact Option.isSome_iff_exists.mp h4
  · rw [e]; exact Option.isSome_iff_exists.mp h5
  · rw [e]; exact of_decide_eq_true h6
theorem unS (c : L.Says K) (ci i : Nat) (hc : L.cls[ci]? = some C) (h : L.fa[i]? = some (.un C m)) (F : FnS (L.gx K c) X W (.ref (He.ma K (He.ga K C) m)) g) (e : X.K = K := by rfl) : UnClsS (L.gx K c) X W m ci g := by
  obtain ⟨h1, h2⟩ := fnAt_ok (c.fact i h)
  exact ⟨_, _, cls_of c ci hc, by rw [e]; exact h1, by rw [e]; exact h2, F⟩
theorem neS (c : L.Says K) (ci i : Nat) (hc : L.cls[ci]? = some C) (h : L.fa[i]? = some (.ne C)) (F : Cal (L.gx K c) X.prog X.w X.mg X.base k (He.ma K (He.ga K C) "__eq__") g) (hr : Room (k + 1) X.A) (e : X.K = K := by rfl) : NeClsS (L.gx K c) X ci g := by
  obtain ⟨h1, h2⟩ := ba (c.fact i h)
  obtain ⟨h3, h4⟩ := fnAt_ok h2
  exact ⟨_, _, k, cls_of c ci hc, by rw [e]; exact He.eqO_ok h1, by rw [e]; exact h3, by rw [e]; exact h4, by rw [e]; exact F, hr⟩
/-- x, a constant of the top -/
theorem se_con {d : D} {pos : Pos} (c : L.Says K) (N : Ns K X.mg) (i : Nat) (h : L.fa[i]? = some (.con x d)) (hg : Gl X x) (hdb : (x == ("__debug__" : Str)) = false := by decide) : SE (L.gx K c) X W (.Name x pos) (eC d) := by
  obtain ⟨u, v, h1, h2, h3⟩ := N.con c i h
  exact se_glob hg h1 h2 h3 hdb
end
end
def orB {α : Type} (a b : Res α) : Res α := match a with | .bad => b | r => r
theorem post_or {α β : Type} {G : Gx} {R : Wd → Hp → α → β → Prop} {ρ : Wd} {H : Hp} {a b : Res α} {Q : β → Hp → Prop} {E : XK} (p : PostR G R ρ H (orB a b) Q E) : PostR G R ρ H a Q E ∨ PostR G R ρ H b Q E := by
  cases a with
  | bad => exact .inr p
  | ok d S => exact .inl p
  | exc x S => exact .inl p
def opOr (f g : D → D → Store → Res D) : D → D → Store → Res D := fun x y S => orB (f x y S) (g x y S)
theorem OpS.or {G : Gx} {X : Cx} {W : WX} {F : Value → Value → Sem Value} {f g : D → D → Store → Res D} (h1 : OpS G X W F f) (h2 : OpS G X W F g) : OpS G X W F (opOr f g) := fun pins s σ H x y v u Q ρ S d1 d2 I rx ry rl r1 r2 p =>
  (post_or p).elim (h1 pins s σ H x y v u Q ρ S d1 d2 I rx ry rl r1 r2) (h2 pins s σ H x y v u Q ρ S d1 d2 I rx ry rl r1 r2)
def fnOr (f g : FN) : FN := fun xs S => orB (f xs S) (g xs S)
theorem FnS.or {G : Gx} {X : Cx} {W : WX} {F : Value} {f g : FN} (h1 : FnS G X W F f) (h2 : FnS G X W F g) : FnS G X W F (fnOr f g) := fun pins s σ H xs us Q ρ S ds I r rl rv p =>
  (post_or p).elim (h1 pins s σ H xs us Q ρ S ds I r rl rv) (h2 pins s σ H xs us Q ρ S ds I r rl rv)
theorem cal0 {G : Gx} {P : Program} {w : World} {mg : Str → Option Value} {base : Heap} {k : Nat} {f : Addr} : Cal G P w mg base k f (fun _ _ => .bad) := by
  intro A outer s H us vs Q E hr e0 r h
  obtain ⟨ρ, S, es, rl, rv, p⟩ := h
  exact p.elim
theorem ints_rel {G : Gx} {ρ : Wd} {H : Hp} : ∀ ns : List Int, RVs G ρ H (ns.map D.int) (ns.map V.int)
  | [] => .nil
  | n :: ns => .cons (.int n) (ints_rel ns)
theorem start_ok {G : Gx} {H : Hp} {a : Addr} {ns : List Int} (hT : G.tabs = []) (ho : Only H) (hS : SqL G.K H a (ns.map V.int)) : Rl G ⟨[], []⟩ ⟨[]⟩ H ∧ RV G ⟨[], []⟩ H (.fl (ns.map D.int)) (.ref a) := by
  refine ⟨⟨rfl, List.nodup_nil, fun b h => (List.not_mem_nil h).elim, fun i o h => ?_, fun p hp => ?_⟩, .fl ?_ (ints_rel ns)⟩
  · cases h
  · rw [hT] at hp; cases hp
  · rcases hS with (h | h) | h
    · rcases ho a with z | ⟨o, xs, z⟩
      · rw [h] at z; cases z
      · rw [h] at z; cases z
    · exact .inl h
    · exact .inr (.inr h)
end L2.Mi

set_option Elab.async false
set_option linter.all false
set_option maxRecDepth 100000
set_option maxHeartbeats 4000000
set_option Elab.async false
set_option linter.all false
set_option maxRecDepth 100000
set_option maxHeartbeats 4000000
set_option Elab.async false
set_option linter.all false
set_option maxRecDepth 100000
set_option maxHeartbeats 1000000
set_option Elab.async false
set_option linter.all false
set_option maxRecDepth 100000
set_option maxHeartbeats 4000000
set_option Elab.async false
set_option linter.all false
set_option maxRecDepth 100000
set_option maxHeartbeats 4000000
set_option Elab.async false
set_option linter.all false
set_option maxRecDepth 100000
set_option maxHeartbeats 4000000
set_option Elab.async false
set_option linter.all false
set_option maxRecDepth 100000
set_option maxHeartbeats 4000000
set_option Elab.async false
set_option linter.all false
set_option maxRecDepth 100000
set_option maxHeartbeats 4000000
set_option Elab.async false
set_option linter.all false
set_option maxRecDepth 100000
set_option maxHeartbeats 4000000
set_option Elab.async false
set_option linter.all false
set_option maxRecDepth 100000
set_option maxHeartbeats 1000000
set_option Elab.async false
set_option linter.all false
set_option maxRecDepth 100000
set_option maxHeartbeats 1000000
set_option Elab.async false
set_option linter.all false
set_option maxRecDepth 100000
set_option maxHeartbeats 1000000
set_option Elab.async false
set_option linter.all false
set_option maxRecDepth 100000
set_option maxHeartbeats 1000000
set_option Elab.async false
set_option linter.all false
set_option maxRecDepth 100000
set_option maxHeartbeats 1000000
set_option Elab.async false
set_option linter.all false
set_option maxRecDepth 100000
set_option maxHeartbeats 1000000
set_option Elab.async false
set_option linter.all false
set_option maxRecDepth 100000
set_option maxHeartbeats 1000000
set_option Elab.async false
set_option linter.all false
set_option maxRecDepth 100000
set_option maxHeartbeats 1000000
set_option Elab.async false
set_option linter.all false
set_option maxRecDepth 100000
set_option maxHeartbeats 1000000
set_option Elab.async false
set_option linter.all false
set_option maxRecDepth 100000
set_option maxHeartbeats 4000000
set_option Elab.async false
set_option linter.all false
set_option maxRecDepth 100000
set_option maxHeartbeats 4000000
set_option Elab.async false
set_option linter.all false
set_option maxRecDepth 100000
set_option maxHeartbeats 4000000
set_option Elab.async false
set_option linter.all false
set_option maxRecDepth 100000
set_option maxHeartbeats 1000000
set_option Elab.async false
set_option linter.all false
set_option maxRecDepth 100000
set_option maxHeartbeats 1000000
set_option Elab.async false
set_option linter.all false
set_option maxRecDepth 100000
set_option maxHeartbeats 1000000
set_option Elab.async false
set_option linter.all false
set_option maxRecDepth 100000
set_option maxHeartbeats 1000000
set_option Elab.async false
set_option linter.all false
set_option maxRecDepth 100000
set_option maxHeartbeats 1000000
set_option Elab.async false
set_option linter.all false
set_option maxRecDepth 100000
set_option maxHeartbeats 1000000
set_option Elab.async false
set_option linter.all false
set_option maxRecDepth 100000
set_option maxHeartbeats 1000000
set_option Elab.async false
set_option linter.all false
set_option maxRecDepth 100000
set_option maxHeartbeats 1000000
set_option Elab.async false
set_option linter.all false
set_option maxRecDepth 100000
set_option maxHeartbeats 1000000
set_option Elab.async false
set_option linter.all false
set_option maxRecDepth 100000
set_option maxHeartbeats 1000000
set_option Elab.async false
set_option linter.all false
set_option maxRecDepth 100000
set_option maxHeartbeats 1000000
set_option Elab.async false
set_option linter.all false
set_option maxRecDepth 100000
set_option maxHeartbeats 4000000
set_option Elab.async false
set_option linter.all false
set_option maxRecDepth 100000
set_option maxHeartbeats 4000000
set_option Elab.async false
set_option linter.all false
set_option maxRecDepth 100000
set_option maxHeartbeats 1000000
set_option Elab.async false
set_option linter.all false
set_option maxRecDepth 100000
set_option maxHeartbeats 1000000
set_option Elab.async false
set_option linter.all false
set_option maxRecDepth 100000
set_option maxHeartbeats 4000000
set_option Elab.async false
set_option linter.all false
set_option maxRecDepth 100000
set_option maxHeartbeats 4000000
set_option Elab.async false
set_option linter.all false
set_option maxRecDepth 100000
set_option maxHeartbeats 4000000
set_option Elab.async false
set_option linter.all false
set_option maxRecDepth 100000
set_option maxHeartbeats 4000000
set_option Elab.async false
set_option linter.all false
set_option maxRecDepth 100000
set_option maxHeartbeats 4000000
set_option Elab.async false
set_option linter.all false
set_option maxRecDepth 100000
set_option maxHeartbeats 4000000
set_option Elab.async false
set_option linter.all false
set_option maxRecDepth 100000
set_option maxHeartbeats 4000000
set_option Elab.async false
set_option linter.all false
set_option maxRecDepth 100000
set_option maxHeartbeats 4000000
set_option Elab.async false
set_option linter.all false
set_option maxRecDepth 100000
set_option maxHeartbeats 4000000
set_option Elab.async false
set_option linter.all false
set_option maxRecDepth 100000
set_option maxHeartbeats 4000000
set_option Elab.async false
set_option linter.all false
set_option maxRecDepth 100000
set_option maxHeartbeats 4000000
set_option Elab.async false
set_option linter.all false
set_option maxRecDepth 100000
set_option maxHeartbeats 4000000
set_option Elab.async false
set_option linter.all false
set_option maxRecDepth 100000
set_option maxHeartbeats 4000000
set_option Elab.async false
set_option linter.all false
set_option maxRecDepth 100000
set_option maxHeartbeats 4000000
set_option Elab.async false
set_option linter.all false
set_option maxRecDepth 100000
set_option maxHeartbeats 4000000
set_option Elab.async false
set_option linter.all false
set_option maxRecDepth 100000
set_option maxHeartbeats 4000000
set_option Elab.async false
set_option linter.all false
set_option maxRecDepth 100000
set_option maxHeartbeats 4000000
set_option Elab.async false
set_option linter.all false
set_option maxRecDepth 100000
set_option maxHeartbeats 1000000
set_option Elab.async false
set_option linter.all false
set_option maxRecDepth 100000
set_option maxHeartbeats 1000000
set_option Elab.async false
set_option linter.all false
set_option maxRecDepth 100000
set_option maxHeartbeats 1000000
set_option Elab.async false
set_option linter.all false
set_option maxRecDepth 100000
set_option maxHeartbeats 1000000
set_option Elab.async false
set_option linter.all false
set_option maxRecDepth 100000
set_option maxHeartbeats 1000000
set_option Elab.async false
set_option linter.all false
set_option maxRecDepth 100000
set_option maxHeartbeats 1000000
set_option Elab.async false
set_option linter.all false
set_option maxRecDepth 100000
set_option maxHeartbeats 1000000
set_option Elab.async false
set_option linter.all false
set_option maxRecDepth 100000
set_option maxHeartbeats 1000000
set_option Elab.async false
set_option linter.all false
set_option maxRecDepth 100000
set_option maxHeartbeats 1000000
set_option Elab.async false
set_option linter.all false
set_option maxRecDepth 100000
set_option maxHeartbeats 1000000
set_option Elab.async false
set_option linter.all false
set_option maxRecDepth 100000
set_option maxHeartbeats 1000000
set_option Elab.async false
set_option linter.all false
set_option maxRecDepth 100000
set_option maxHeartbeats 1000000
set_option Elab.async false
set_option linter.all false
set_option maxRecDepth 100000
set_option maxHeartbeats 1000000
set_option Elab.async false
set_option linter.all false
set_option maxRecDepth 100000
set_option maxHeartbeats 1000000
set_option Elab.async false
set_option linter.all false
set_option maxRecDepth 100000
set_option maxHeartbeats 1000000
set_option Elab.async false
set_option linter.all false
set_option maxRecDepth 100000
set_option maxHeartbeats 1000000
set_option Elab.async false
set_option linter.all false
set_option maxRecDepth 100000
set_option maxHeartbeats 1000000
set_option Elab.async false
set_option linter.all false
set_option maxRecDepth 100000
set_option maxHeartbeats 1000000
set_option Elab.async false
set_option linter.all false
set_option maxRecDepth 100000
set_option maxHeartbeats 1000000
set_option Elab.async false
set_option linter.all false
set_option maxRecDepth 100000
set_option maxHeartbeats 1000000
set_option Elab.async false
set_option linter.all false
set_option maxRecDepth 100000
set_option maxHeartbeats 2000000
set_option Elab.async false
set_option linter.all false
set_option maxRecDepth 100000
set_option maxHeartbeats 2000000
set_option Elab.async false
set_option linter.all false
set_option maxRecDepth 100000
set_option maxHeartbeats 2000000
set_option Elab.async false
set_option linter.all false
set_option maxRecDepth 100000
set_option maxHeartbeats 2000000
set_option Elab.async false
set_option linter.all false
set_option maxRecDepth 100000
set_option maxHeartbeats 2000000
set_option Elab.async false
set_option linter.all false
set_option maxRecDepth 100000
set_option maxHeartbeats 2000000
set_option Elab.async false
set_option linter.all false
set_option maxRecDepth 100000
set_option maxHeartbeats 2000000
set_option Elab.async false
set_option linter.all false
set_option maxRecDepth 100000
set_option maxHeartbeats 2000000
set_option Elab.async false
set_option linter.all false
set_option maxRecDepth 100000
set_option maxHeartbeats 2000000
set_option Elab.async false
set_option linter.all false
set_option maxRecDepth 100000
set_option maxHeartbeats 2000000
set_option Elab.async false
set_option linter.all false
set_option maxRecDepth 100000
set_option maxHeartbeats 2000000
set_option Elab.async false
set_option linter.all false
set_option maxRecDepth 100000
set_option maxHeartbeats 2000000
set_option Elab.async false
set_option linter.all false
set_option maxRecDepth 100000
set_option maxHeartbeats 2000000
namespace L2.Mi
open PySem PySem.Spec PyProof.Rows
def hshE (e : DictEntry) : Str × Int := match e.key with
  | .str k _ => (k, e.hash)
  | _ => (⟨#[]⟩, 0)
def strK (e : DictEntry) : Bool := match e.key with
  | .str _ _ => true
  | _ => false
def hshOf (K : Fg) (x : Str) : List (Str × Int) := match K.lookup (He.ga K x) with
  | some ⟨_, _, .dict es _, _⟩ => es.toList.map hshE
  | _ => []
def hshV (w : World) (ks : List Str) : List (Str × Int) := ks.map fun k => (k, PyData.keyHash w.params k)
def valH (hd : List (Str × List Str)) (w : World) : List (List (Str × Int)) := hd.map fun p => hshV w p.2
def HDk (hd : List (Str × List Str)) (K : Fg) (w : World) : Prop := (hd.map fun p => hshOf K p.1) = hd.map fun p => hshV w p.2
abbrev KdT := List (List Nat × Option D)
/-- what stands there -/
def kdB (x : Str) (t : KdT) (K : Fg) : Bool := He.eqO (PySem.W.nsIn K mainGlobals x) (some (some (.ref (He.ga K x)))) && (!(He.ga K x == sysModules) && ((match K.lookup (He.ga K x) with
  | some ⟨.type c, none, .dict es _, sl⟩ => decide (c = "dict") && (sl.isEmpty && es.toList.all strK)
  | _ => false) && t.all fun p => match p.2, PySem.W.nsIn K (He.ga K x) ⟨p.1.toArray⟩ with
    | none, some none => true
    | some d, some (some u) => kvB K 8 d u
    | _, _ => false))
def Lw.obsH (L : Lw) (hd : List (Str × List Str)) (n : Nat) (g : Addr → Option Obj) : AlM × List (List (Str × Int)) := (L.obsG n g, hd.map fun p => hshOf (He.frG g (L.asL n g)) p.1)
def Lw.hookH (L : Lw) (hd : List (Str × List Str)) (n : Nat) : PySem.W.Hook where
  α := AlM × List (List (Str × Int))
  obs := fun s => L.obsH hd n s.heap.get?
  val := fun w => (L.vl, valH hd w)
  says := fun w h => ∃ K : Fg, K.In h ∧ L.Says K ∧ HDk hd K w
  of := fun w s e => ⟨_, He.frG_in, congrArg (fun z : AlM × List (List (Str × Int)) => z.1) e, congrArg (fun z : AlM × List (List (Str × Int)) => z.2) e⟩
  keeps := fun _ _ _ ⟨K, hK, c⟩ k => ⟨K, PySem.W.Frag.In.keeps hK k, c⟩
end L2.Mi

set_option Elab.async false
set_option linter.all false
set_option maxRecDepth 100000
set_option maxHeartbeats 2000000
set_option Elab.async false
set_option linter.all false
set_option maxRecDepth 100000
set_option maxHeartbeats 4000000
namespace L2.Mi.Pg
open PySem PySem.Spec PyProof.Rows
abbrev pw : Program := PySem.Challenge.pw_farmisses_k82_texts_of_conditions
def top (i : Nat) : Stmt := pw.main.body.getD i (.Pass ⟨0, 0, 0, 0⟩)
abbrev s_0 : Stmt := inClass (top 3) 0
abbrev s_1 : Stmt := inClass (top 4) 0
abbrev s_2 : Stmt := inClass (top 5) 0
abbrev s_3 : Stmt := inClass (top 6) 0
abbrev s_4 : Stmt := top 13
abbrev s_5 : Stmt := top 14
abbrev s_6 : Stmt := top 15
abbrev s_7 : Stmt := inClass (top 22) 0
abbrev s_8 : Stmt := inClass (top 22) 1
abbrev s_9 : Stmt := inClass (top 22) 2
abbrev s_10 : Stmt := inClass (top 22) 3
abbrev s_11 : Stmt := inClass (top 22) 4
abbrev s_12 : Stmt := inClass (top 22) 5
abbrev s_13 : Stmt := inClass (top 22) 6
abbrev s_14 : Stmt := top 23
abbrev s_15 : Stmt := inClass (top 24) 0
abbrev s_16 : Stmt := inClass (top 24) 1
abbrev s_17 : Stmt := inClass (top 24) 2
abbrev s_18 : Stmt := inClass (top 24) 4
abbrev s_19 : Stmt := inClass (top 24) 5
abbrev s_20 : Stmt := inClass (top 24) 6
abbrev s_21 : Stmt := inClass (top 24) 7
abbrev s_22 : Stmt := inClass (top 24) 8
abbrev s_23 : Stmt := inClass (top 24) 9
abbrev s_24 : Stmt := top 25
abbrev s_25 : Stmt := top 27
abbrev s_26 : Stmt := top 28
abbrev s_27 : Stmt := top 29
abbrev s_28 : Stmt := top 30
abbrev s_29 : Stmt := top 31
abbrev s_30 : Stmt := top 32
abbrev s_31 : Stmt := top 33
abbrev s_32 : Stmt := top 34
abbrev s_33 : Stmt := top 35
abbrev s_34 : Stmt := top 36
abbrev s_35 : Stmt := top 37
def isiT : List (Tag × Tag × Bool) := [(.b "NoneType", .b "str", false), (.b "NoneType", .o 0, false), (.b "bool", .b "str", false), (.b "bool", .o 0, false), (.b "int", .b "str", false), (.b "int", .o 0, false), (.b "str", .b "str", true), (.b "str", .o 0, false), (.b "tuple", .b "str", false), (.b "tuple", .o 0, false), (.b "list", .b "str", false), (.b "list", .o 0, false), (.b "dict", .b "str", false), (.b "dict", .o 0, false), (.b "type", .b "str", false), (.b "type", .o 0, false), (.o 0, .b "str", false), (.o 0, .o 0, true), (.o 1, .b "str", false), (.o 1, .o 0, false)]
def kdt_0 : KdT := [([107, 105, 110, 100], some (.kt [(.str [104, 105, 116]), (.str [109, 105, 115, 115]), (.str [99, 114, 111, 119, 100, 101, 100]), (.str [98, 97, 99, 107]), (.str [116, 104, 114, 111, 119, 110])])), ([108, 101, 118, 101, 108], none), ([97, 99, 99, 101, 115, 115], none), ([111, 116, 104, 101, 114], none), ([97, 114, 114, 97, 121], none), ([119, 111, 114, 100], some (.kt [(.str [114, 101, 97, 100]), (.str [119, 114, 105, 116, 101])]))]
def hdn : List (Str × List Str) := [("CHOICES", ["kind", "word"])]
end L2.Mi.Pg

set_option Elab.async false
set_option linter.all false
set_option maxRecDepth 100000
set_option maxHeartbeats 4000000
namespace L2.Mi.Pg
open PySem PySem.Spec PyProof.Rows
def defs : List DefM := [⟨.m "InvalidText" "__init__", "__init__", "InvalidText.__init__", s_0, []⟩,
  ⟨.m "UnknownName" "__init__", "__init__", "UnknownName.__init__", s_1, []⟩,
  ⟨.m "TooLarge" "__init__", "__init__", "TooLarge.__init__", s_2, []⟩,
  ⟨.m "InvalidQuestion" "__init__", "__init__", "InvalidQuestion.__init__", s_3, []⟩,
  ⟨.g "kind_of", "kind_of", "kind_of", s_4, []⟩,
  ⟨.g "end_of_run", "end_of_run", "end_of_run", s_5, []⟩,
  ⟨.g "tokens_of", "tokens_of", "tokens_of", s_6, [(.str [123, 125, 91, 93, 43, 45, 42]), (.kt [(.str [97, 114, 114, 97, 121]), (.str [102, 111, 114]), (.str [114, 101, 97, 100]), (.str [119, 114, 105, 116, 101]), (.str [102, 108, 117, 115, 104]), (.str [110])])]⟩,
  ⟨.m "Condition" "__init__", "__init__", "Condition.__init__", s_7, []⟩,
  ⟨.m "Condition" "parts", "parts", "Condition.parts", s_8, []⟩,
  ⟨.m "Condition" "__call__", "__call__", "Condition.__call__", s_9, []⟩,
  ⟨.m "Condition" "__and__", "__and__", "Condition.__and__", s_10, []⟩,
  ⟨.m "Condition" "__or__", "__or__", "Condition.__or__", s_11, []⟩,
  ⟨.m "Condition" "__invert__", "__invert__", "Condition.__invert__", s_12, []⟩,
  ⟨.m "Condition" "__eq__", "__eq__", "Condition.__eq__", s_13, []⟩,
  ⟨.g "where", "where", "where", s_14, []⟩,
  ⟨.m "QuestionReader" "__init__", "__init__", "QuestionReader.__init__", s_15, []⟩,
  ⟨.m "QuestionReader" "refuse", "refuse", "QuestionReader.refuse", s_16, []⟩,
  ⟨.m "QuestionReader" "accept", "accept", "QuestionReader.accept", s_17, []⟩,
  ⟨.m "QuestionReader" "read_end", "read_end", "QuestionReader.read_end", s_18, []⟩,
  ⟨.m "QuestionReader" "read_condition", "read_condition", "QuestionReader.read_condition", s_19, []⟩,
  ⟨.m "QuestionReader" "read_both", "read_both", "QuestionReader.read_both", s_20, []⟩,
  ⟨.m "QuestionReader" "read_one", "read_one", "QuestionReader.read_one", s_21, []⟩,
  ⟨.m "QuestionReader" "read_atom", "read_atom", "QuestionReader.read_atom", s_22, []⟩,
  ⟨.m "QuestionReader" "read_value", "read_value", "QuestionReader.read_value", s_23, []⟩,
  ⟨.g "read_condition", "read_condition", "read_condition", s_24, []⟩,
  ⟨.g "_law_pool", "_law_pool", "_law_pool", s_25, []⟩,
  ⟨.g "_law_take", "_law_take", "_law_take", s_26, []⟩,
  ⟨.g "_law_atoms", "_law_atoms", "_law_atoms", s_27, []⟩,
  ⟨.g "_law_form", "_law_form", "_law_form", s_28, []⟩,
  ⟨.g "_law_words", "_law_words", "_law_words", s_29, []⟩,
  ⟨.g "_law_is_like", "_law_is_like", "_law_is_like", s_30, []⟩,
  ⟨.g "_law_atom", "_law_atom", "_law_atom", s_31, []⟩,
  ⟨.g "_law_built", "_law_built", "_law_built", s_32, []⟩,
  ⟨.g "_law_text", "_law_text", "_law_text", s_33, []⟩,
  ⟨.g "_law_more", "_law_more", "_law_more", s_34, []⟩,
  ⟨.g "law", "law", "law", s_35, []⟩]
def fa : List Fm := [.glo "law",
  .con "LETTERS" (.str [97, 98, 99, 100, 101, 102, 103, 104, 105, 106, 107, 108, 109, 110, 111, 112, 113, 114, 115, 116, 117, 118, 119, 120, 121, 122]),
  .con "DIGITS" (.str [48, 49, 50, 51, 52, 53, 54, 55, 56, 57]),
  .free "len",
  .glo "end_of_run",
  .glo "kind_of",
  .glo "Condition",
  .mkr "Condition",
  .free "isinstance",
  .con "FIELDS" (.kt [(.str [107, 105, 110, 100]), (.str [108, 101, 118, 101, 108]), (.str [97, 99, 99, 101, 115, 115]), (.str [111, 116, 104, 101, 114]), (.str [97, 114, 114, 97, 121]), (.str [119, 111, 114, 100])]),
  .oex "UnknownName",
  .noat "UnknownName" "name",
  .glo "UnknownName",
  .free "str",
  .oex "InvalidText",
  .noat "InvalidText" "value",
  .glo "InvalidText",
  .con "SIGNS" (.str [123, 125, 91, 93, 43, 45, 42]),
  .glo "tokens_of",
  .oex "InvalidQuestion",
  .noat "InvalidQuestion" "position",
  .glo "InvalidQuestion",
  .con "DEEPEST" (.int 30),
  .oex "TooLarge",
  .noat "TooLarge" "word",
  .glo "TooLarge",
  .con "NUMBERS" (.kt [(.str [108, 101, 118, 101, 108]), (.str [97, 99, 99, 101, 115, 115]), (.str [111, 116, 104, 101, 114])]),
  .con "LONGEST" (.int 150),
  .free "int",
  .raw (kdB "CHOICES" kdt_0),
  .glo "QuestionReader",
  .mkr "QuestionReader",
  .free "abs",
  .glo "_law_take",
  .glo "_law_atoms",
  .glo "_law_form",
  .glo "_law_words",
  .glo "_law_is_like",
  .glo "where",
  .glo "_law_built",
  .glo "_law_atom",
  .free "range",
  .free "min",
  .free "max",
  .glo "_law_pool",
  .glo "_law_more",
  .glo "_law_text",
  .glo "read_condition",
  .noat "QuestionReader" "at",
  .noat "QuestionReader" "depth",
  .noat "Condition" "form",
  .noat "QuestionReader" "tokens",
  .meth "QuestionReader" "accept",
  .meth "Condition" "parts",
  .meth "QuestionReader" "read_atom",
  .meth "QuestionReader" "read_both",
  .meth "QuestionReader" "read_condition",
  .meth "QuestionReader" "read_end",
  .meth "QuestionReader" "read_one",
  .meth "QuestionReader" "read_value",
  .meth "QuestionReader" "refuse",
  .bin "Condition" .BitAnd,
  .bin "Condition" .BitOr,
  .un "Condition" "__invert__",
  .un "Condition" "__eq__",
  .ne "Condition"]
def L : Lw where
  cls := ["Condition", "QuestionReader"]
  flds := ["form", "name", "value", "tokens", "at", "depth", "position", "refuse", "read_both", "accept", "read_one", "word", "read_condition", "read_atom", "read_value", "read_end", "parts"]
  isi := isiT
  xcl := ["FarError", "InvalidText", "UnknownName", "TooLarge", "InvalidQuestion"]
  defs := defs
  fa := fa
  kd := ["CHOICES"]
  fok := by decide +kernel
end L2.Mi.Pg

set_option Elab.async false
set_option linter.all false
set_option maxRecDepth 100000
set_option maxHeartbeats 4000000
namespace L2.Mi.Pg
open PySem PySem.Spec PyProof.Rows
abbrev R : PySem.W.OpenRow := PySem.W.OpenLaw.row PySem.Challenge.rw_farmisses_k82_texts_of_conditions
abbrev hk : PySem.W.Hook := L.hookH hdn 6
def ob (s : PySem.W.SharedT) : AlM × List (List (Str × Int)) := L.obsH hdn 6 (HandSHeadRun.getT s)
def loose0 : List Str := ["_wall", "FarError", "InvalidText", "UnknownName", "TooLarge", "InvalidQuestion", "LETTERS", "DIGITS", "SIGNS", "KEYWORDS", "LONGEST", "kind_of", "end_of_run", "tokens_of", "KINDS"]
def loose1 : List Str := ["FIELDS", "NUMBERS", "CHOICES", "DEEPEST", "Condition", "where", "QuestionReader", "read_condition", "_law_pool", "_law_take", "_law_atoms", "_law_form", "_law_words", "_law_is_like", "_law_atom"]
def loose2 : List Str := ["_law_built", "_law_text", "_law_more"]
def loose : List Str := loose0 ++ loose1 ++ loose2
theorem head_f (w : World) : HandSHeadRun.RunEq R (PySem.W.view R.prog [37]) hk ob 20000 loose (w.withFollow "special-get-raises" false) := by
  intro os
  kernel_rfl
theorem head_t (w : World) : HandSHeadRun.RunEq R (PySem.W.view R.prog [37]) hk ob 20000 loose (w.withFollow "special-get-raises" true) := by
  intro os
  kernel_rfl
theorem head (w : World) : HandSHeadRun.RunEq R (PySem.W.view R.prog [37]) hk ob 20000 loose w := PySem.W.byRow2 "special-get-raises" (P := fun w => HandSHeadRun.RunEq R (PySem.W.view R.prog [37]) hk ob 20000 loose w) head_f head_t w
end L2.Mi.Pg

set_option Elab.async false
set_option linter.all false
set_option maxRecDepth 100000
set_option maxHeartbeats 4000000
set_option Elab.async false
set_option linter.all false
set_option maxRecDepth 100000
set_option maxHeartbeats 4000000
set_option Elab.async false
set_option linter.all false
set_option maxRecDepth 100000
set_option maxHeartbeats 4000000
set_option Elab.async false
set_option linter.all false
set_option maxRecDepth 100000
set_option maxHeartbeats 4000000
set_option Elab.async false
set_option linter.all false
set_option maxRecDepth 100000
set_option maxHeartbeats 4000000
set_option Elab.async false
set_option linter.all false
set_option maxRecDepth 100000
set_option maxHeartbeats 4000000
set_option Elab.async false
set_option linter.all false
set_option maxRecDepth 100000
set_option maxHeartbeats 4000000
set_option Elab.async false
set_option linter.all false
set_option maxRecDepth 100000
set_option maxHeartbeats 4000000
set_option Elab.async false
set_option linter.all false
set_option maxRecDepth 100000
set_option maxHeartbeats 4000000
set_option Elab.async false
set_option linter.all false
set_option maxRecDepth 100000
set_option maxHeartbeats 4000000
set_option Elab.async false
set_option linter.all false
set_option maxRecDepth 100000
set_option maxHeartbeats 4000000
set_option Elab.async false
set_option linter.all false
set_option maxRecDepth 100000
set_option maxHeartbeats 4000000
set_option Elab.async false
set_option linter.all false
set_option maxRecDepth 100000
set_option maxHeartbeats 4000000
set_option Elab.async false
set_option linter.all false
set_option maxRecDepth 100000
set_option maxHeartbeats 4000000
set_option Elab.async false
set_option linter.all false
set_option maxRecDepth 100000
set_option maxHeartbeats 4000000
set_option Elab.async false
set_option linter.all false
set_option maxRecDepth 100000
set_option maxHeartbeats 4000000
namespace L2.Mi
open PySem PySem.Spec PyProof.Rows
section
variable {G : Gx} {X : Cx} {W : WX} {a b c e tg : Expr} {ma mb mc m : ME} {pos : Pos}
def truD (S : Store) : D → Option Bool
  | .non => some false
  | .bl b => some b
  | .int i => some (i != 0)
  | .str l => if l.length ≤ lim then some ((l.length : Int) != 0) else none
  | d => (match seqAt S d with | some ds => some (!ds.isEmpty) | none => none)
def tTru (m : ME) : MT := fun σ S => (m σ S).bind fun d S1 => match truD S1 d with | some k => .ok k S1 | none => .bad
theorem rvs_empty {ρ : Wd} {H : Hp} {ds : List D} {xs : List V} (r : RVs G ρ H ds xs) : xs.isEmpty = ds.isEmpty := by cases r <;> rfl
theorem truD_rel {ρ : Wd} {S : Store} {H : Hp} {d : D} {x : V} {k : Bool} (rl : Rl G ρ S H) (rv : RV G ρ H d x) (h : truD S d = some k) : TruV G.K x H k := by
  have sq : ∀ {d : D} {x : V}, RV G ρ H d x → (match seqAt S d with | some ds => some (!ds.isEmpty) | none => none) = some k → TruV G.K x H k := fun {d x} rv h => by
    cases q : seqAt S d with
    | none => rw [q] at h; cases h
    | some ds =>
      rw [q] at h
      obtain ⟨a, xs, rfl, hq, hr⟩ := seqAt_rel rl rv q
      have hk : k = !xs.isEmpty := by rw [rvs_empty hr]; exact (Option.some.inj h).symm
      rcases hq with hq | hq
      · exact .inl ⟨xs, hq, hk⟩
      · exact .inr (.inl ⟨xs, hq, hk⟩)
  cases rv with
  | non => exact (Option.some.inj h).symm
  | bl b => exact (Option.some.inj h).symm
  | int i => exact (Option.some.inj h).symm
  | str l =>
    have h : (if l.length ≤ lim then some ((l.length : Int) != 0) else none) = some k := h
    by_cases hl : l.length ≤ lim
    · rw [if_pos hl] at h
      refine ⟨by rw [str_len]; exact lim_le hl, ?_⟩
      rw [str_len]
      exact (Option.some.inj h).symm
    · rw [if_neg hl] at h; cases h
  | tup ht hr => exact sq (.tup ht hr) h
  | kt ht hr => exact sq (.kt ht hr) h
  | lv n ht hr => exact sq (.lv n ht hr) h
  | fl ht hr => exact sq (.fl ht hr) h
  | ref hi => exact sq (.ref hi) h
  | fn hi => exact sq (.fn hi) h
  | ty n => cases h
  | cl hc => cases h
  | ex _ _ _ _ => cases h
  | cx _ => cases h
  | lm _ _ _ => cases h
  | dvK _ _ _ => cases h
  | dvT _ _ _ => cases h
theorem st_tru (cc : Cc G X W) (h : SE G X W e m) (he : ∀ whole, isTrue e X.env whole = (do let v ← whole; standAt e.pos; holding [v] (truthy v)) := by intro _; rfl) : ST G X W e (tTru m) := by
  refine PT.weak (pt_truth h he) fun σ H Q ⟨ρ, σs, S, rl, re, p⟩ => ?_
  refine ⟨ρ, σs, S, rl, re, p.bind (R := RV G) fun ρ1 H1 S1 d x l1 rl1 rv1 p1 => ?_⟩
  cases q : truD S1 d with
  | none => simp only [q] at p1; exact p1.elim
  | some k =>
    simp only [q] at p1
    exact ⟨k, by rw [cc.k]; exact truD_rel rl1 rv1 q, p1 ρ1 H1 k Le.refl rl1 rfl⟩
def iOr (a b : MI) : MI := fun σ S => orB (a σ S) (b σ S)
theorem si_or {iter : Expr} {m1 m2 : MI} (h1 : SI G X W tg iter m1) (h2 : SI G X W tg iter m2) : SI G X W tg iter (iOr m1 m2) := ⟨fun pins s σ H R I ⟨ρ, σs, S, rl, re, p⟩ =>
  (post_or p).elim (fun p => h1.run pins s σ H R I ⟨ρ, σs, S, rl, re, p⟩) (fun p => h2.run pins s σ H R I ⟨ρ, σs, S, rl, re, p⟩)⟩
/-- a tuple or a list -/
def iSeq (m : ME) : MI := fun σ S => (m σ S).bind fun d S1 => match tupD d with
  | some ds => .ok (fun k _ => some ds[k]?) S1
  | none => (match listAt S1 d with
    | some _ => .ok (fun k S' => (listAt S' d).map fun ds => ds[k]?) S1
    | none => .bad)
theorem iSeq_or (m : ME) (σ : En) (S : Store) : iSeq m σ S = iOr (iTup m) (iList m) σ S := by
  unfold iSeq iOr iTup iList
  cases q : m σ S with
  | ok d S1 => cases d <;> rfl
  | exc x S1 => rfl
  | bad => rfl
theorem si_seq (cc : Cc G X W) (h : SE G X W e m) : SI G X W tg e (iSeq m) := by
  have z : iSeq m = iOr (iTup m) (iList m) := funext fun σ => funext fun S => iSeq_or m σ S
  rw [z]
  exact si_or (si_tup cc h) (si_list cc h)
theorem szl {k : Nat} (h : Nat.ble k 16777216 = true) : k ≤ sizeLine := by rw [sizeLine_eq]; exact Nat.le_of_ble_eq_true h
/-- a comprehension: the block's context comes with each part -/
theorem se_lcc {elt tg iter : Expr} {ifs : List Expr} {scope : Scope} {own : List (Str × Nat)} {mi : MI} {t : TgN} {mt : MT} {me : ME} (n : Nat) (cc : Cc G X W) (hi : SI G X W tg iter mi) (ok : BlkOk X.N X.env.scope scope own) (hv : ∀ i ∈ t.slots, i ∈ own.map (·.2))
    (hg : ∀ (s : Shared) (H : Hp) (C : Addr) (cl : List (Str × Addr)) (fp : List Addr), Cc G (X.blk s H scope (compEnvC scope cl C X.env) fp) W0 → PG (X.blk s H scope (compEnvC scope cl C X.env) fp) tg (t.tg X.K))
    (ht : ∀ (s : Shared) (H : Hp) (C : Addr) (cl : List (Str × Addr)) (fp : List Addr), Cc G (X.blk s H scope (compEnvC scope cl C X.env) fp) W0 → PTs (X.blk s H scope (compEnvC scope cl C X.env) fp) ifs (tmt G W0 mt))
    (he : ∀ (s : Shared) (H : Hp) (C : Addr) (cl : List (Str × Addr)) (fp : List Addr), Cc G (X.blk s H scope (compEnvC scope cl C X.env) fp) W0 → SE G (X.blk s H scope (compEnvC scope cl C X.env) fp) W0 elt me) (hs : ∀ x, foldedSetIterable iter X.env x = pure x := by intro _; rfl) :
    SE G X W (.ListComp elt [⟨tg, iter, ifs, 0⟩] scope pos) (eLcV mi t mt me (own.map (·.2)) n) :=
  se_lcv n cc hi ok hv (fun s H C cl fp => hg s H C cl fp (cc_blk cc)) (fun s H C cl fp => ht s H C cl fp (cc_blk cc)) (fun s H C cl fp => he s H C cl fp (cc_blk cc)) hs
def addI : D → D → Store → Res D := intOp (fun _ _ => true) fun i j => .int (i + j)
theorem ss_augA {i : Nat} {x : Str} {pos' : Pos} (cc : Cc G X W) (hi : X.N[i]? = some x) (hx : Loc X.env.scope x) (he : SE G X W e m) (hf : X.fn x = true ∨ X.env.scope.names.lookup x = some .local := by first | exact .inl rfl | exact .inr rfl | assumption) :
    SS G X W (.AugAssign (.Name x pos') .Add e pos) (sAug i addI m) :=
  ss_aug cc.nd hi hx he ip_add (fun ρ S H d1 d2 x y Q E rl r1 r2 p => by
    obtain ⟨i, j, h1, h2, h3, p⟩ := intOp_go r1 r2 p
    exact ⟨i, j, h1, h2, post_ok p rl (.int _)⟩) hf
end
end L2.Mi

set_option Elab.async false
set_option linter.all false
set_option maxRecDepth 100000
set_option maxHeartbeats 4000000
namespace L2.Mi
open PySem
def fin (r : RS) : Res D := match r with
  | .rt d S1 => .ok d S1
  | .nx _ S1 => .ok .non S1
  | .exc x _ S1 => .exc x S1
  | _ => .bad
section
variable {α β : Type} {σ σ' : En} {S S' : Store} {a b c : ME} {t u : MT} {k l : MS} {ms : List ME} {d e : D} {i j : Nat} {x : Xn} {f g : D → D → Store → Res D} {F : List D → Store → Res D}
@[simp] theorem fin_rt : fin (.rt d S) = .ok d S := (rfl)
@[simp] theorem fin_nx : fin (.nx σ S) = .ok .non S := (rfl)
@[simp] theorem bind_ok' {a : α} {f : α → Store → Res β} : (Res.ok a S).bind f = f a S := (rfl)
@[simp] theorem eC_ev : eC d σ S = .ok d S := (rfl)
@[simp] theorem eVar_0 : eVar 0 (some d :: σ) S = .ok d S := (rfl)
@[simp] theorem eVar_s {o : Option D} : eVar (i + 1) (o :: σ) S = eVar i σ S := by unfold eVar; rw [List.getElem?_cons_succ]
@[simp] theorem eBin_ev : eBin f a b σ S = (a σ S).bind fun x S1 => (b σ S1).bind fun y S2 => f x y S2 := (rfl)
@[simp] theorem eUn_ev {f : D → Store → Res D} : eUn f a σ S = (a σ S).bind fun x S1 => f x S1 := (rfl)
@[simp] theorem aList_nil : aList [] σ S = .ok [] S := (rfl)
@[simp] theorem aList_cons : aList (a :: ms) σ S = (a σ S).bind fun x S1 => (aList ms σ S1).bind fun xs S2 => .ok (x :: xs) S2 := (rfl)
@[simp] theorem eTup_ev : eTup ms σ S = (aList ms σ S).bind fun xs S1 => .ok (.tup xs) S1 := (rfl)
@[simp] theorem eLv_ev : eLv ms σ S = (aList ms σ S).bind fun xs S1 => .ok (.lv xs) S1 := (rfl)
@[simp] theorem eLst_ev : eLst ms σ S = (aList ms σ S).bind fun xs S1 => .ok (.ref S1.size) (S1.push (.lst xs)) := (rfl)
@[simp] theorem eFn_ev {m : MA} : eFn F m σ S = (m σ S).bind F := (rfl)
@[simp] theorem tOf_ev : tOf a σ S = (a σ S).bind fun d S1 => match d with | .bl b => .ok b S1 | _ => .bad := (rfl)
@[simp] theorem tTru_ev : tTru a σ S = (a σ S).bind fun d S1 => match truD S1 d with | some k => .ok k S1 | none => .bad := (rfl)
@[simp] theorem tAnd_ev : tAnd t u σ S = (t σ S).bind fun c S1 => if c then u σ S1 else .ok false S1 := (rfl)
@[simp] theorem tOr_ev : tOr t u σ S = (t σ S).bind fun c S1 => if c then .ok true S1 else u σ S1 := (rfl)
@[simp] theorem tNot_ev : tNot t σ S = (t σ S).bind fun c S1 => .ok (!c) S1 := (rfl)
@[simp] theorem eAnd_ev : eAnd a b σ S = (tOf a σ S).bind fun c S1 => if c then b σ S1 else .ok (.bl false) S1 := (rfl)
@[simp] theorem eIf_ev : eIf t a b σ S = (t σ S).bind fun c S1 => if c then a σ S1 else b σ S1 := (rfl)
@[simp] theorem truD_bl {b : Bool} : truD S (.bl b) = some b := (rfl)
@[simp] theorem sNext_ev : sNext σ S = .nx σ S := (rfl)
@[simp] theorem sSeq_ev : sSeq k l σ S = (match k σ S with | .nx σ1 S1 => l σ1 S1 | r => r) := (rfl)
@[simp] theorem sRet_ev : sRet a σ S = (match a σ S with | .ok d S1 => .rt d S1 | .exc x S1 => .exc x σ S1 | .bad => .bad) := (rfl)
@[simp] theorem sDrop_ev : sDrop a σ S = (match a σ S with | .ok _ S1 => .nx σ S1 | .exc x S1 => .exc x σ S1 | .bad => .bad) := (rfl)
@[simp] theorem sIf_ev : sIf t k l σ S = (match t σ S with | .ok c S1 => (if c then k σ S1 else l σ S1) | .exc x S1 => .exc x σ S1 | .bad => .bad) := (rfl)
@[simp] theorem gName_ev : gName i d σ S = .ok (σ.set i (some d)) S := (rfl)
@[simp] theorem sAsg_ev {g : MG} : sAsg a g σ S = (match a σ S with | .ok d S1 => (match g d σ S1 with | .ok σ2 S2 => .nx σ2 S2 | _ => .bad) | .exc x S1 => .exc x σ S1 | .bad => .bad) := (rfl)
@[simp] theorem ltI_ev {i j : Int} : ltI (.int i) (.int j) S = .ok (.bl (decide (i < j))) S := (rfl)
@[simp] theorem gtI_ev {i j : Int} : gtI (.int i) (.int j) S = .ok (.bl (decide (j < i))) S := (rfl)
@[simp] theorem geI_ev {i j : Int} : geI (.int i) (.int j) S = .ok (.bl (decide (j ≤ i))) S := (rfl)
theorem mulF_ev {i j : Int} {o : D → D → Store → Res D} (h : mulOk i j = true) : mulF o (.int i) (.int j) S = .ok (.int (i * j)) S := by unfold mulF; simp only [h, if_true]
theorem modI_ev {i j : Int} (h : 0 < j) : modI (.int i) (.int j) S = .ok (.int (i % j)) S := by unfold modI intOp; simp [h]
theorem divI_ev {i j : Int} (h : divOk j = true) : divI (.int i) (.int j) S = .ok (.int (i / j)) S := by unfold divI intOp; simp [h]
theorem powI_ev {i j : Int} (h : powOk i j = true) : powI (.int i) (.int j) S = .ok (.int (i ^ j.toNat)) S := by unfold powI intOp; simp [h]
@[simp] theorem intF_ev {i : Int} : intF [.int i] S = .ok (.int i) S := (rfl)
@[simp] theorem intF_bl {i : Bool} : intF [.bl i] S = .ok (.int (if i then 1 else 0)) S := (rfl)
@[simp] theorem absF_ev {i : Int} : absF [.int i] S = .ok (.int (if i < 0 then -i else i)) S := (rfl)
@[simp] theorem max2F_ev {i j : Int} : max2F [.int i, .int j] S = .ok (.int (if j > i then j else i)) S := (rfl)
end
theorem lenF_seq {S : Store} {d : D} {xs : List D} (h : seqAt S d = some xs) : lenF [d] S = .ok (.int xs.length) S := by
  unfold seqAt at h
  cases d with
  | tup ys => cases h; rfl
  | kt ys => cases h; rfl
  | lv ys => cases h; rfl
  | fl ys => cases h; rfl
  | ref i =>
    have h' : listAt S (.ref i) = some xs := h
    show (match listAt S (.ref i) with | some xs => Res.ok (D.int xs.length) S | none => .bad) = _
    rw [h']
  | _ => cases h
theorem itemF_seq {S : Store} {d x : D} {xs : List D} {i : Int} (h : seqAt S d = some xs) (hi : L2.atI xs i = some x) : itemF d (.int i) S = .ok x S := by
  unfold seqAt at h
  unfold itemF
  cases q : tupD d with
  | some ds =>
    rw [q] at h
    cases h
    simp only [hi]
  | none =>
    rw [q] at h
    have h' : listAt S d = some xs := h
    simp only [h', hi]
theorem atI_nat {α : Type} {xs : List α} {k : Nat} {x : α} (h : xs[k]? = some x) : L2.atI xs (k : Int) = some x := by
  have hl := (List.getElem?_eq_some_iff.mp h).1
  unfold L2.atI L2.ixN
  rw [if_pos (by omega), if_pos (by omega)]
  simpa using h
theorem seqAt_list {S : Store} {d : D} {xs : List D} (h : listAt S d = some xs) : seqAt S d = some xs := by
  unfold seqAt
  cases d with
  | tup ys => cases h
  | kt ys => cases h
  | _ => exact h
theorem eqF_int {own : D → D → Store → Res D} {i j : Int} {S : Store} : eqF own (.int i) (.int j) S = .ok (.bl (i == j)) S := by
  simp [eqF, dat, SeqAt.shaped, PyData.canLay0, PyData.depth, PyData.eqv]
theorem dat_ints {n : Nat} {S : Store} : ∀ ps : List Int, mapO (dat n S) (ps.map D.int) = some (ps.map PyData.int)
  | [] => rfl
  | p :: ps => by
    have h : dat n S (.int p) = some (.int p) := by cases n <;> simp [dat]
    simp only [List.map_cons, mapO, h, dat_ints ps]
/-- tuples of ints -/
def tupI (ps : List Int) : D := .tup (ps.map D.int)
/-- d is a tuple of these ints -/
def TI (d : D) (ps : List Int) : Prop := tupD d = some (ps.map D.int)
theorem TI.of (ps : List Int) : TI (tupI ps) ps := rfl
theorem TI.seq {d : D} {ps : List Int} {S : Store} (h : TI d ps) : seqAt S d = some (ps.map D.int) := by
  unfold seqAt
  rw [show tupD d = some (ps.map D.int) from h]
theorem TI.dat {d : D} {ps : List Int} {n : Nat} {S : Store} (h : TI d ps) : dat (n + 1) S d = some (.tuple (ps.map PyData.int)) := by
  cases d with
  | tup xs => cases h; simp [L2.Mi.dat, dat_ints]
  | kt xs => cases h; simp [L2.Mi.dat, dat_ints]
  | _ => cases h
def Ext (S S' : Store) : Prop := ∀ i o, S.get i = some o → S'.get i = some o
theorem Ext.refl (S : Store) : Ext S S := fun _ _ h => h
theorem Ext.trans {a b c : Store} (h : Ext a b) (k : Ext b c) : Ext a c := fun i o e => k i o (h i o e)
theorem Ext.push {S : Store} {o : Ob} : Ext S (S.push o) := fun _ _ h => Store.get_push_some h
theorem Store.push_set {S : Store} {o o' : Ob} : (S.push o).set S.size o' = S.push o' := by
  unfold Store.push Store.set Store.size
  simp
theorem listAt_ref {S : Store} {i : Nat} {ds : List D} (h : S.get i = some (.lst ds)) : listAt S (.ref i) = some ds := by
  unfold listAt
  simp only [h]
def Sm (b : Nat) (i : Int) : Prop := i.natAbs < 2 ^ b
theorem log2_le {n b : Nat} (h : n < 2 ^ b) : n.log2 ≤ b := by
  by_cases hn : n = 0
  · subst hn; simp
  · exact Nat.le_of_lt ((Nat.log2_lt hn).mpr h)
theorem Sm.mul {a b : Nat} {i j : Int} (hi : Sm a i) (hj : Sm b j) : Sm (a + b) (i * j) := by
  unfold Sm at *
  rw [Int.natAbs_mul, Nat.pow_add]
  exact Nat.mul_lt_mul_of_lt_of_le hi (Nat.le_of_lt hj) (Nat.pow_pos (by omega))
theorem Sm.mono {a b : Nat} {i : Int} (h : Sm a i) (hab : a ≤ b) : Sm b i := Nat.lt_of_lt_of_le h (Nat.pow_le_pow_right (by omega) hab)
theorem Sm.neg {a : Nat} {i : Int} (hi : Sm a i) : Sm a (-i) := by
  unfold Sm at *
  rwa [Int.natAbs_neg]
theorem Sm.zero {a : Nat} : Sm a 0 := Nat.pow_pos (by omega)
end L2.Mi

set_option Elab.async false
set_option linter.all false
set_option maxRecDepth 100000
set_option maxHeartbeats 1000000
namespace L2.Mi
open PySem
abbrev Op2 := D → D → Store → Res D
def takeM (oA oM : Op2) : MS :=
    sSeq (sIf (tOf (eBin gtI (eBin itemF (eVar 0) (eC (.int 0))) (eC (.int 0)))) (sSeq (sSet 2 (eBin modI (eFn intF (aList [eBin itemF (eVar 0) (eC (.int 0))])) (eVar 1)))
    (sSeq (sAsg (eBin divI (eBin itemF (eVar 0) (eC (.int 0))) (eVar 1)) (gSub (eVar 0) (eC (.int 0)) setL))
    (sRet (eVar 2)))) (sNext))
    (sSeq (sAsg (eBin modI (eFn intF (aList [eBin oA (eBin oM (eBin itemF (eVar 0) (eC (.int 1))) (eC (.int 48271))) (eC (.int 12345))])) (eC (.int 2147483647))) (gSub (eVar 0) (eC (.int 1)) setL))
    (sRet (eBin modI (eBin divI (eBin modI (eFn intF (aList [eBin oM (eBin itemF (eVar 0) (eC (.int 1))) (eBin itemF (eVar 0) (eC (.int 1)))])) (eC (.int 2147483629))) (eC (.int 64))) (eVar 1))))
/-- what is asked of + and * -/
structure OpsI (oA oM : Op2) : Prop where
  a : ∀ i j S, oA (.int i) (.int j) S = .ok (.int (i + j)) S
  m : ∀ i j S, mulOk i j = true → oM (.int i) (.int j) S = .ok (.int (i * j)) S
/-- a pool stands at i -/
def Pool (S : Store) (i : Nat) : Prop := ∃ h s : Int, S.get i = some (.lst [.int h, .int s]) ∧ 0 ≤ h ∧ 0 ≤ s ∧ s < 2147483647
theorem at0 {a b : D} : L2.atI [a, b] 0 = some a := rfl
theorem at1 {a b : D} : L2.atI [a, b] 1 = some b := rfl
theorem mulOk_l {i j : Int} (h1 : -(2 ^ 64) < i) (h2 : i < 2 ^ 64) : mulOk i j = true := by
  unfold mulOk
  simp only [Bool.or_eq_true, Bool.and_eq_true, decide_eq_true_eq]
  exact .inl (.inl ⟨h1, h2⟩)
theorem mulOk_r {i j : Int} (h1 : -(2 ^ 64) < j) (h2 : j < 2 ^ 64) : mulOk i j = true := by
  unfold mulOk
  simp only [Bool.or_eq_true, Bool.and_eq_true, decide_eq_true_eq]
  exact .inl (.inr ⟨h1, h2⟩)
theorem divOk_of {w : Int} (h : 0 < w) (h1 : w < 2 ^ 31) : divOk w = true := by
  unfold divOk
  rw [Bool.and_eq_true, decide_eq_true_eq, decide_eq_true_eq]
  refine ⟨h, ?_⟩
  have := log2_le (n := w.natAbs) (b := 31) (by omega)
  omega
theorem take_ok {oA oM : Op2} (O : OpsI oA oM) {S : Store} {i : Nat} {w : Int} (hp : Pool S i) (w0 : 0 < w) (w1 : w < 2 ^ 31) :
    ∃ r o, fin (takeM oA oM [some (.ref i), some (.int w), none] S) = .ok (.int r) (S.set i o) ∧ 0 ≤ r ∧ r < w ∧ Pool (S.set i o) i := by
  obtain ⟨h, s, hg, h0, s0, s1⟩ := hp
  have hi := Store.get_lt hg
  have i0 : itemF (.ref i) (.int 0) S = .ok (.int h) S := itemF_seq (seqAt_list (listAt_ref hg)) at0
  have i1 : itemF (.ref i) (.int 1) S = .ok (.int s) S := itemF_seq (seqAt_list (listAt_ref hg)) at1
  by_cases hh : 0 < h
  · refine ⟨h % w, .lst [.int (h / w), .int s], ?_, Int.emod_nonneg _ (by omega), Int.emod_lt_of_pos _ w0, ⟨h / w, s, Store.get_set_same hi, Int.ediv_nonneg h0 (by omega), s0, s1⟩⟩
    have hs : setL (.ref i) (.int 0) (.int (h / w)) S = some (S.set i (.lst [.int (h / w), .int s])) := by
      unfold setL
      simp only [hg]
      rfl
    unfold takeM
    simp only [sSeq_ev, sIf_ev, tOf_ev, eBin_ev, eVar_0, eVar_s, eC_ev, bind_ok', i0, gtI_ev, decide_eq_true hh, if_true, sAsg_ev, eFn_ev, aList_cons, aList_nil, intF_ev, modI_ev w0, gName_ev, List.set_cons_succ, List.set_cons_zero, divI_ev (divOk_of w0 w1), gSub, hs, sRet_ev, fin_rt]
  · have hs : ∀ z : Int, setL (.ref i) (.int 1) (.int z) S = some (S.set i (.lst [.int h, .int z])) := fun z => by
      unfold setL
      simp only [hg]
      rfl
    have p0 : (0 : Int) ≤ (s * 48271 + 12345) % 2147483647 := Int.emod_nonneg _ (by omega)
    have p1 : (s * 48271 + 12345) % 2147483647 < 2147483647 := Int.emod_lt_of_pos _ (by omega)
    have hg2 : (S.set i (.lst [.int h, .int ((s * 48271 + 12345) % 2147483647)])).get i = some (.lst [.int h, .int ((s * 48271 + 12345) % 2147483647)]) := Store.get_set_same hi
    have j1 : itemF (.ref i) (.int 1) (S.set i (.lst [.int h, .int ((s * 48271 + 12345) % 2147483647)])) = .ok (.int ((s * 48271 + 12345) % 2147483647)) (S.set i (.lst [.int h, .int ((s * 48271 + 12345) % 2147483647)])) := itemF_seq (seqAt_list (listAt_ref hg2)) at1
    refine ⟨(((s * 48271 + 12345) % 2147483647) * ((s * 48271 + 12345) % 2147483647)) % 2147483629 / 64 % w, .lst [.int h, .int ((s * 48271 + 12345) % 2147483647)], ?_, Int.emod_nonneg _ (by omega), Int.emod_lt_of_pos _ w0, ⟨h, _, hg2, h0, p0, p1⟩⟩
    unfold takeM
    have k1 := O.m s 48271 S (mulOk_r (by omega) (by omega))
    have k2 := O.m ((s * 48271 + 12345) % 2147483647) ((s * 48271 + 12345) % 2147483647) (S.set i (.lst [.int h, .int ((s * 48271 + 12345) % 2147483647)])) (mulOk_r (by omega) (by omega))
    simp only [sSeq_ev, sIf_ev, tOf_ev, eBin_ev, eVar_0, eVar_s, eC_ev, bind_ok', i0, i1, gtI_ev, decide_eq_false hh, Bool.false_eq_true, if_false, sNext_ev, sAsg_ev, eFn_ev, aList_cons, aList_nil, intF_ev, k1, O.a, modI_ev (show (0 : Int) < 2147483647 by omega), gSub, hs, sRet_ev, j1, k2, modI_ev (show (0 : Int) < 2147483629 by omega), divI_ev (divOk_of (show (0 : Int) < 64 by omega) (by omega)), modI_ev w0, fin_rt]
def poolM (lx : FN) (oA oM : Op2) : MS :=
    sSeq (sSet 2 (eC (.int 0)))
    (sSeq (sIf (tOf (eBin ltI (eVar 1) (eFn lx (aList [eVar 0])))) (sSet 2 (eBin itemF (eVar 0) (eVar 1))) (sNext))
    (sSeq (sSet 3 (eFn absF (aList [eVar 2])))
    (sSeq (sSet 4 (eBin modI (eBin oM (eFn intF (aList [eBin oA (eBin modI (eFn intF (aList [eVar 2])) (eC (.int 2147483629))) (eBin oM (eC (.int 104729)) (eBin oA (eVar 1) (eC (.int 1))))])) (eBin oA (eVar 1) (eC (.int 7)))) (eC (.int 2147483629))))
    (sSeq (sSet 5 (eBin modI (eBin oM (eBin modI (eFn intF (aList [eBin oM (eVar 4) (eVar 4)])) (eC (.int 2147483629))) (eC (.int 48271))) (eC (.int 2147483647))))
    (sRet (eLst [eBin oM (eVar 3) (eFn intF (aList [eBin geI (eVar 3) (eBin powI (eC (.int 10)) (eC (.int 18)))])), eVar 5]))))))
theorem pool_ok {lx : FN} {oA oM : Op2} (O : OpsI oA oM) {S : Store} {ns : List Int} {k : Nat} (hx : lx [.fl (ns.map D.int)] S = lenF [.fl (ns.map D.int)] S) (hk : k < 1000) (hl : ns.length ≤ 1000) :
    ∃ o, fin (poolM lx oA oM [some (.fl (ns.map D.int)), some (.int (k : Int)), none, none, none, none] S) = .ok (.ref S.size) (S.push o) ∧ Pool (S.push o) S.size := by
  have hc : ∃ c : Int, sIf (tOf (eBin ltI (eVar 1) (eFn lx (aList [eVar 0])))) (sSet 2 (eBin itemF (eVar 0) (eVar 1))) sNext [some (.fl (ns.map D.int)), some (.int (k : Int)), some (.int 0), none, none, none] S =
      .nx [some (.fl (ns.map D.int)), some (.int (k : Int)), some (.int c), none, none, none] S := by
    have hlen : lx [.fl (ns.map D.int)] S = .ok (.int ns.length) S := by
      rw [hx, lenF_seq (xs := ns.map D.int) rfl, List.length_map]
    by_cases h : k < ns.length
    · refine ⟨ns[k], ?_⟩
      have hi : itemF (.fl (ns.map D.int)) (.int (k : Int)) S = .ok (.int ns[k]) S := itemF_seq (xs := ns.map D.int) rfl (atI_nat (by simp [h]))
      simp only [sIf_ev, tOf_ev, eBin_ev, eVar_s, eVar_0, eFn_ev, aList_cons, aList_nil, bind_ok', hlen, ltI_ev, decide_eq_true (show (k : Int) < (ns.length : Int) by omega), if_true, sAsg_ev, hi, gName_ev, List.set_cons_succ, List.set_cons_zero]
    · refine ⟨0, ?_⟩
      simp only [sIf_ev, tOf_ev, eBin_ev, eVar_s, eVar_0, eFn_ev, aList_cons, aList_nil, bind_ok', hlen, ltI_ev, decide_eq_false (show ¬ (k : Int) < (ns.length : Int) by omega), Bool.false_eq_true, if_false, sNext_ev]
  obtain ⟨c, hc⟩ := hc
  have q1 : (0 : Int) < 2147483629 := by omega
  have q2 : (0 : Int) < 2147483647 := by omega
  have r0 := Int.emod_nonneg c (show (2147483629 : Int) ≠ 0 by omega)
  have r1 := Int.emod_lt_of_pos c q1
  have m1 : mulOk 104729 ((k : Int) + 1) = true := mulOk_l (by omega) (by omega)
  have m2 : mulOk (c % 2147483629 + 104729 * ((k : Int) + 1)) ((k : Int) + 7) = true := mulOk_r (by omega) (by omega)
  have b0 := Int.emod_nonneg ((c % 2147483629 + 104729 * ((k : Int) + 1)) * ((k : Int) + 7)) (show (2147483629 : Int) ≠ 0 by omega)
  have b1 := Int.emod_lt_of_pos ((c % 2147483629 + 104729 * ((k : Int) + 1)) * ((k : Int) + 7)) q1
  generalize hb : (c % 2147483629 + 104729 * ((k : Int) + 1)) * ((k : Int) + 7) % 2147483629 = bl at b0 b1
  have m3 : mulOk bl bl = true := mulOk_l (by omega) (by omega)
  have m4 : mulOk (bl * bl % 2147483629) 48271 = true := mulOk_r (by omega) (by omega)
  have s0 := Int.emod_nonneg (bl * bl % 2147483629 * 48271) (show (2147483647 : Int) ≠ 0 by omega)
  have s1 := Int.emod_lt_of_pos (bl * bl % 2147483629 * 48271) q2
  have a0 : (0 : Int) ≤ (if c < 0 then -c else c) := by split <;> omega
  generalize ha : (if c < 0 then -c else c) = hv at a0
  have pw : powOk 10 18 = true := by decide
  have f0 : (0 : Int) ≤ (if decide ((10 : Int) ^ (18 : Int).toNat ≤ hv) = true then 1 else 0) ∧ (if decide ((10 : Int) ^ (18 : Int).toNat ≤ hv) = true then (1 : Int) else 0) ≤ 1 := by split <;> omega
  have m5 : mulOk hv (if decide ((10 : Int) ^ (18 : Int).toNat ≤ hv) = true then 1 else 0) = true := mulOk_r (by omega) (by omega)
  refine ⟨_, ?_, ⟨hv * (if decide ((10 : Int) ^ (18 : Int).toNat ≤ hv) = true then 1 else 0), bl * bl % 2147483629 * 48271 % 2147483647, Store.get_push_same, Int.mul_nonneg a0 f0.1, s0, s1⟩⟩
  unfold poolM
  simp only [sSeq_ev, sAsg_ev, eC_ev, gName_ev, List.set_cons_succ, List.set_cons_zero, hc, eFn_ev, aList_cons, aList_nil, eVar_s, eVar_0, bind_ok', absF_ev, ha, eBin_ev, intF_ev, modI_ev q1, modI_ev q2, O.a, O.m _ _ _ m1, O.m _ _ _ m2, hb, O.m _ _ _ m3, O.m _ _ _ m4, sRet_ev, eLst_ev, powI_ev pw, geI_ev, intF_bl, O.m _ _ _ m5, fin_rt]
end L2.Mi

set_option Elab.async false
set_option linter.all false
set_option maxRecDepth 100000
set_option maxHeartbeats 4000000
namespace L2.Mi
open PySem PySem.Spec PyProof.Rows
structure XC (K : Fg) (C fI : Addr) : Prop where
  o : OexC K C
  x : XfC K C
  i : PySem.W.findIn K (.ref C) "__init__" = some (some (.ref fI))
  t : PySem.W.typeIn K (.ref fI) = some (.type "function")
theorem oexO_ok {K : Fg} {C : Addr} (h : oexO K C = true) : ∃ nm q N bs bm sn sub ab col dd k0 k1 k2 k3 k5, K.lookup C = some (excClassObj nm q C N bs bm true sn sub ab col dd k0 k1 k2 k3 k5 "ValueError.__new__") ∧ PySem.HandSPX.refsVE bm = true := by
  unfold oexO at h
  split at h
  · rename_i t dd cd sl look
    split at h
    · rename_i C2 bm k0 k1 k2 k3 n k5 e1 e2
      obtain ⟨a1, h⟩ := ba h
      obtain ⟨a2, h⟩ := ba h
      obtain ⟨a3, h⟩ := ba h
      obtain ⟨a4, h⟩ := ba h
      obtain ⟨a5, a6⟩ := ba h
      have b1 := of_decide_eq_true a1
      have b2 := of_decide_eq_true a2
      have b3 := of_decide_eq_true a3
      subst b1 b2 b3
      obtain ⟨z1, z2, z3, z4, z5, z6, z7, z8, z9, z10, z11⟩ := cd
      obtain ⟨sl0⟩ := sl
      simp only at e1 e2 a4 a5
      have a7 : z11 = false := by simpa using a4
      subst e1 e2 a5 a7
      exact ⟨_, _, _, _, _, _, _, _, _, _, _, _, _, _, _, look, a6⟩
    · cases h
  · cases h
theorem xc_of {L : Lw} {K : Fg} (c : L.Says K) (i : Nat) {C : Str} (h : L.fa[i]? = some (.oex C)) : XC K (He.ga K C) (He.ma K (He.ga K C) "__init__") := by
  obtain ⟨h1, z⟩ := ba (c.fact i h)
  obtain ⟨h2, z⟩ := ba z
  obtain ⟨h3, z⟩ := ba z
  obtain ⟨h4, z⟩ := ba z
  obtain ⟨h5, z⟩ := ba z
  obtain ⟨h6, h7⟩ := ba z
  obtain ⟨h8, h9⟩ := fnAt_ok h6
  exact ⟨⟨oexO_ok h1, He.eqO_ok h2, of_decide_eq_true h3, of_decide_eq_true h4, h5⟩, xfB_ok h7, h8, beq_iff_eq.mp h9⟩
def spX (K : Fg) (f : Str) : Sp := fun vs H Q _ => ∃ (a C : Addr) (v : V), vs = [.ref a, v] ∧ OexC K C ∧ PySem.W.findIn K (.ref C) f = some none ∧ H a = some (exo a C none) ∧
  ∀ dx, H dx = none → dx ≠ a → Q .non (upd (upd H dx (exd dx [(f, v)])) a (exo a C (some dx)))
theorem xi_ok {P : Program} {w : World} {K : Fg} {mg : Str → Option Value} {base : Heap} {x qual : Str} {params : Arguments} {scope : Scope} {fI : Addr} {fd : FuncData} {k : Nat} {s v f : Str} {p1 p2 p3 pos : Pos} {dvs : List V} {kws : List (Str × V)}
    (F : FunD K x qual params [.Assign [.Attribute (.Name s p1) f p2] (.Name v p3) pos] scope dvs kws fI fd) (S : FnScope [s, v] [s, v] scope) (hs : Vis scope s) (hv : Vis scope v)
    (d1 : (s == ("__debug__" : Str)) = false := by decide) (d2 : (s == ("__classdict__" : Str)) = false := by decide) (d3 : (v == ("__debug__" : Str)) = false := by decide) (d4 : (v == ("__classdict__" : Str)) = false := by decide) :
    FnOk P w K mg base (L2.CX P w) (k + 1) fI fd [s, v] (spX K f) := by
  refine F.ok S (fun vs H Q E ⟨a, C, u, e, _⟩ => by rw [e]; rfl) fun cdv A outer st H vs Q E hr ⟨a, C, u, e, T, hn, ha, q⟩ => ?_
  subst e
  refine ⟨_, pss_one (ps_ost (pe_var (i := 0) rfl hs d1 d2) (pe_var (i := 1) rfl hv d3 d4)), u, rfl, .ref a, rfl, a, C, rfl, T, hn, .inl ⟨ha, fun dx n1 n2 => q dx n1 n2⟩⟩
def sRaise (c f : Nat) (m : ME) : MS := fun σ S => match m σ S with
  | .ok d S1 => .exc ⟨c, [(f, d)]⟩ σ S1
  | .exc x S1 => .exc x σ S1
  | .bad => .bad
theorem made_heap {H : Hp} {a dx C : Addr} {v : V} {f : Str} (n1 : H a = none) (ne : dx ≠ a) :
    upd (del (upd (upd (upd H a (exo a C none)) dx (exd dx [(f, v)])) a (exo a C (some dx))) a) dx (.xd [(f, v)]) = upd H dx (.xd [(f, v)]) := by
  funext b
  by_cases h1 : b = dx
  · subst h1
    rw [upd_same, upd_same]
  · rw [upd_ne h1, upd_ne h1]
    by_cases h2 : b = a
    · subst h2
      rw [del_same, n1]
    · rw [del_ne h2, upd_ne h2, upd_ne h1, upd_ne h2]
section
variable {G : Gx} {X : Cx} {W : WX}
theorem passFalse : Passes (L2.CX X.prog X.w) X (fun _ _ _ => False) := fun _ _ _ _ _ _ _ h => by
  obtain ⟨_, _, _, _, _, _, _, _, _, _, _, _, z⟩ := h
  exact z.elim
theorem ss_raise {e : Expr} {m : ME} {c f : Nat} {C fI : Addr} {k : Nat} {fd : FuncData} {ps : List Str} {x : Str} {p pos pos2 : Pos} (cc : Cc G X W) (T : XC X.K C fI) (hc : G.clsv c = some (.ref C)) (hn : PySem.W.findIn X.K (.ref C) (G.fld f) = some none)
    (F : FnOk X.prog X.w X.K X.mg X.base (L2.CX X.prog X.w) k fI fd ps (spX X.K (G.fld f))) (hr : Room (k + 1) X.A) (hb : Binds X.K fd ps []) (hg : Gl X x) (hm : X.mg x = some (.ref C)) (he : SE G X W e m)
    (hdb : (x == ("__debug__" : Str)) = false := by decide) (hs : starEach [e] X.env = (false, eval e X.env) :: starEach [] X.env := by rfl) (hpl : (backTo pos (starEach [] X.env)).any (·.1) = false := by rfl) :
    SS G X W (.Raise (some (.Call (.Name x p) [e] [] pos)) none pos2) (sRaise c f m) := by
  have mk : PMk X (.Call (.Name x p) [e] [] pos) _ := pmk_oex T.o T.i T.t F hr hb .nil passFalse hg hm (sa_cons he sa_nil hs) hdb hs hpl
  refine PS.weak (ps_raise cc.calm cc.tk mk) fun D σ H ⟨ρ, σs, S, rl, re, q⟩ => ?_
  refine ⟨ρ, σs, S, rl, re, ?_⟩
  unfold sRaise at q
  unfold aList aList
  cases hm1 : m σs S with
  | bad => rw [hm1] at q; exact q.elim
  | exc y S1 => rw [hm1] at q; exact fun ρ1 H1 cls dd l1 rl1 rx => q ρ1 H1 σ cls dd l1 rl1 (re.mono l1) rx
  | ok d S1 =>
    rw [hm1] at q
    intro ρ1 H1 xs l1 rl1 rv1
    obtain ⟨v, rfl, rv⟩ := rvs1 rv1
    refine ⟨by simp, fun a ha => ⟨a, C, v, rfl, T.o, hn, upd_same, fun dx n1 n2 => ?_⟩⟩
    have hx : H1 dx = none := by rw [upd_ne n2] at n1; exact n1
    refine ⟨rfl, dx, [(G.fld f, v)], upd_same, by rw [upd_ne n2, upd_same], hx, ?_⟩
    rw [made_heap ha n2]
    refine q ρ1 _ σ (.ref C) (some dx) (l1.trans (Le.new hx)) (rl1.other hx) ((re.mono l1).mono (Le.new hx)) ⟨hc, .inr ⟨dx, _, rfl, upd_same, .cons (rv.mono (Le.new hx)) .nil⟩⟩
end
end L2.Mi

set_option Elab.async false
set_option linter.all false
set_option maxRecDepth 100000
set_option maxHeartbeats 4000000
namespace L2.Mi
open PySem PySem.Spec PyProof.Rows
/-- a clause: its class, the slot of its name, what its return gives -/
structure Cls1 where
  c : Value
  i : Option Nat
  tx : Addr → Value → Option Addr → TE
def Cls1.put (q : Cls1) (a : Addr) (σ : St) : St := match q.i with
  | none => σ
  | some i => σ.set i (some (.ref a))
inductive ClOk (X : Cx) : List ExceptHandler → List Cls1 → Prop
  | nil : ClOk X [] []
  | bare {x : Str} {c : Value} {tx : Addr → Value → Option Addr → TE} {e : Expr} {np rp hp : Pos} {hs : List ExceptHandler} {l : List Cls1} (nm : Names X x c)
      (su : ∀ (a : Addr) (oe : Obj) (cls : Value) (d : Option Addr) (pn : List (Addr × Obj)), Zc cls d oe → (∃ vs, oe.data = .fields vs) → PE (X.suite a ((a, oe) :: pn)) e (tx a cls d)) (r : ClOk X hs l) :
      ClOk X (.ExceptHandler (some (.Name x np)) none [.Return (some e) rp] hp :: hs) (⟨c, none, tx⟩ :: l)
  | named {x n : Str} {c : Value} {i : Nat} {tx : Addr → Value → Option Addr → TE} {e : Expr} {np rp hp : Pos} {hs : List ExceptHandler} {l : List Cls1} (nm : Names X x c) (hi : X.N[i]? = some n) (lo : X.env.kindOf n = some .local)
      (su : ∀ (a : Addr) (oe : Obj) (cls : Value) (d : Option Addr) (pn : List (Addr × Obj)), Zc cls d oe → (∃ vs, oe.data = .fields vs) → PE (X.suite a ((a, oe) :: pn)) e (tx a cls d)) (r : ClOk X hs l) :
      ClOk X (.ExceptHandler (some (.Name x np)) (some n) [.Return (some e) rp] hp :: hs) (⟨c, some i, tx⟩ :: l)
abbrev MX := Xn → Store → Res D
section
variable (G : Gx) (i : Option Nat) (a : Addr) (cls : Value) (d : Option Addr)
def tmx (m : MX) : TE := fun σ H Q => ∃ ρ S x, Rl G ρ S H ∧ RX G ρ H x cls d ∧ (∀ j, i = some j → σ[j]? = some (some (.ref a))) ∧ Post G ρ H (m x S) Q (fun _ _ _ => False)
end
def SX (G : Gx) (X : Cx) (i : Option Nat) (e : Expr) (m : MX) : Prop :=
  ∀ (a : Addr) (oe : Obj) (cls : Value) (d : Option Addr) (pn : List (Addr × Obj)), Zc cls d oe → (∃ vs, oe.data = .fields vs) → PE (X.suite a ((a, oe) :: pn)) e (tmx G i a cls d m)
theorem RX.mono {G : Gx} {ρ ρ' : Wd} {H H' : Hp} {x : Xn} {cls : Value} {dd : Option Addr} (h : RX G ρ H x cls dd) (l : Le G ρ H ρ' H') : RX G ρ' H' x cls dd := by
  refine ⟨h.cls, ?_⟩
  rcases h.fs with h | ⟨d, us, e1, e2, r⟩
  · exact .inl h
  · exact .inr ⟨d, us, e1, l.tk d _ trivial e2, r.move l.mv⟩
section
variable {G : Gx} {X : Cx} {i : Option Nat} {e : Expr} {es : List Expr} {pos p : Pos}
theorem rfs_look {ρ : Wd} {H : Hp} : ∀ {fs : List (Nat × D)} {us : List (Str × V)} {f : Nat} {d : D}, RFs G ρ H fs us → fs.lookup f = some d → ∃ v, us.lookup (G.fld f) = some v ∧ RV G ρ H d v
  | _, _, _, _, .nil, h => by cases h
  | _, _, f, d, @RFs.cons _ _ _ n d0 v0 fs us r t, h => by
    by_cases q : f = n
    · subst q
      simp [List.lookup] at h
      subst h
      exact ⟨v0, by simp [List.lookup], r⟩
    · have b : (f == n) = false := by simpa using q
      have b2 : (G.fld f == G.fld n) = false := by
        simp only [beq_eq_false_iff_ne, ne_eq]
        exact fun z => q (G.inj _ _ z)
      simp [List.lookup, b] at h
      obtain ⟨v, h1, h2⟩ := rfs_look t h
      exact ⟨v, by simp [List.lookup, b2, h1], h2⟩
end
structure Hd1 where
  c : Nat
  i : Option Nat
  m : MX
inductive ClS (G : Gx) (X : Cx) : List ExceptHandler → List Hd1 → Prop
  | nil : ClS G X [] []
  | bare {x : Str} {c : Nat} {C : Value} {e : Expr} {m : MX} {np rp hp : Pos} {hs : List ExceptHandler} {l : List Hd1} (nm : Names X x C) (hc : G.clsv c = some C) (su : SX G X none e m) (r : ClS G X hs l) :
      ClS G X (.ExceptHandler (some (.Name x np)) none [.Return (some e) rp] hp :: hs) (⟨c, none, m⟩ :: l)
  | named {x n : Str} {c i : Nat} {C : Value} {e : Expr} {m : MX} {np rp hp : Pos} {hs : List ExceptHandler} {l : List Hd1} (nm : Names X x C) (hc : G.clsv c = some C) (hi : X.N[i]? = some n) (lo : X.env.kindOf n = some .local) (su : SX G X (some i) e m) (r : ClS G X hs l) :
      ClS G X (.ExceptHandler (some (.Name x np)) (some n) [.Return (some e) rp] hp :: hs) (⟨c, some i, m⟩ :: l)
end L2.Mi

set_option Elab.async false
set_option linter.all false
set_option maxRecDepth 100000
set_option maxHeartbeats 4000000
namespace L2.Mi
open PySem PySem.Spec PyProof.Rows
abbrev NoG (A : Around) : Prop := A.guards = some []
/-- a def's promise where no guard stands -/
structure FnG (P : Program) (w : World) (K : Fg) (mg : Str → Option Value) (base : Heap) (cx : CXT) (k : Nat) (f : Addr) (fd : FuncData) (ps : List Str) (sp : Sp) : Prop where
  ln : ∀ vs H Q E, sp vs H Q E → vs.length = ps.length
  go : ∀ (A : Around) (out : List Env) (s : Shared) (H : Hp) (ar : Args) (us : List Value) (vs : List V) (Q : VK) (E : XK), NoG A → Room k A → Env0 P w K mg base A out s H → BindsTo s fd ar (ps.zip us) → Vals vs us → sp vs H Q E →
    codeAny (model P w) A (.call (.ref f) ar) (CR cx out P w H s Q E) s
section
variable {G : Gx} {P : Program} {w : World} {mg : Str → Option Value} {base : Heap} {N ps : List Str} {x qual : Str} {params : Arguments} {body : List Stmt} {scope : Scope} {dvs : List V} {kws : List (Str × V)} {f : Addr} {fd : FuncData} {k : Nat} {ms : MS}
/-- a callable's promise where no guard stands -/
def CalG (G : Gx) (P : Program) (w : World) (mg : Str → Option Value) (base : Heap) (k : Nat) (f : Addr) (m : FN) : Prop :=
  ∀ (A : Around) (out : List Env) (s : Shared) (H : Hp) (us : List Value) (vs : List V) (Q : VK) (E : XK), NoG A → Room k A → Env0 P w G.K mg base A out s H → Vals vs us → spG G m vs H Q E →
    codeAny (model P w) A (.call (.ref f) ⟨us, []⟩) (CR (L2.CX P w) out P w H s Q E) s
theorem calG0 : CalG G P w mg base k f (fun _ _ => .bad) := by
  rintro A out s H us vs Q E ng hr env rel ⟨ρ, S, es, rl, rv, p⟩
  exact p.elim
theorem Cal.toG {m : FN} (h : Cal G P w mg base k f m) : CalG G P w mg base k f m := fun A out s H us vs Q E _ => h A out s H us vs Q E
end
end L2.Mi

set_option Elab.async false
set_option linter.all false
set_option maxRecDepth 100000
set_option maxHeartbeats 4000000
set_option Elab.async false
set_option linter.all false
set_option maxRecDepth 100000
set_option maxHeartbeats 4000000
namespace L2.Mi
open PySem PySem.Spec PyProof.Rows
def flatD : D → Bool
  | .non => true
  | .bl _ => true
  | .int _ => true
  | .str _ => true
  | _ => false
/-- == of flat values -/
def eqD : D → D → Bool
  | .non, .non => true
  | .bl a, .bl b => a == b
  | .bl a, .int b => (if a then 1 else 0) == b
  | .int a, .bl b => a == (if b then 1 else 0)
  | .int a, .int b => a == b
  | .str a, .str b => a == b
  | _, _ => false
def seqD (S : Store) (d : D) : Option (List D) := match tupD d with
  | some ds => some ds
  | none => listAt S d
def inF (neg : Bool) : D → D → Store → Res D := fun x y S => match seqD S y with
  | some ds => if flatD x && ds.all flatD then .ok (.bl (if neg then !(ds.any fun z => eqD z x) else ds.any fun z => eqD z x)) S else .bad
  | none => match x, y with
    | .str [c], .str z => .ok (.bl (if neg then !decide (c ∈ z) else decide (c ∈ z))) S
    | _, _ => .bad
section
variable {G : Gx} {X : Cx} {W : WX} {ρ : Wd} {H : Hp} {S : Store}
theorem flat_rel {d : D} {v : V} (r : RV G ρ H d v) (h : flatD d = true) : flatV v = true := by
  cases r <;> first | rfl | cases h
theorem eq_rel {d e : D} {v u : V} (r1 : RV G ρ H d v) (r2 : RV G ρ H e u) (h1 : flatD d = true) (h2 : flatD e = true) : eqV v u = eqD d e := by
  cases r1 <;> (first | cases h1; done | skip) <;> cases r2 <;> (first | cases h2; done | rfl | skip)
  rename_i x y
  show ((⟨x.toArray⟩ : Str) == ⟨y.toArray⟩) = (x == y)
  by_cases h : x = y
  · subst h; simp
  · have n1 : ((⟨x.toArray⟩ : Str) == ⟨y.toArray⟩) = false := by
      refine beq_eq_false_iff_ne.mpr fun z => h ?_
      have z2 := congrArg (fun s : Str => s.cps.toList) z
      simpa using z2
    have n2 : (x == y) = false := beq_eq_false_iff_ne.mpr h
    rw [n1, n2]
theorem all_flat : ∀ {ds : List D} {vs : List V}, RVs G ρ H ds vs → ds.all flatD = true → vs.all flatV = true
  | _, _, .nil, _ => rfl
  | _, _, .cons r t, h => by
    rw [List.all_cons, Bool.and_eq_true] at h ⊢
    exact ⟨flat_rel r h.1, all_flat t h.2⟩
theorem any_eq {e : D} {u : V} (r2 : RV G ρ H e u) (h2 : flatD e = true) : ∀ {ds : List D} {vs : List V}, RVs G ρ H ds vs → ds.all flatD = true → (vs.any fun z => eqV z u) = ds.any fun z => eqD z e
  | _, _, .nil, _ => rfl
  | _, _, .cons r t, h => by
    rw [List.all_cons, Bool.and_eq_true] at h
    rw [List.any_cons, List.any_cons, eq_rel r r2 h.1 h2, any_eq r2 h2 t h.2]
theorem seqD_rel {d : D} {x : V} {ds : List D} (rl : Rl G ρ S H) (rv : RV G ρ H d x) (h : seqD S d = some ds) : ∃ a xs, x = .ref a ∧ (SqL G.K H a xs ∨ SqT G.K H a xs) ∧ RVs G ρ H ds xs := by
  unfold seqD at h
  cases q : tupD d with
  | some es =>
    simp only [q] at h
    cases h
    obtain ⟨a, xs, e, sq, r⟩ := tupD_rel rv q
    exact ⟨a, xs, e, .inr sq, r⟩
  | none =>
    simp only [q] at h
    obtain ⟨a, xs, e, sq, r⟩ := listAt_rel rl rv h
    exact ⟨a, xs, e, .inl sq, r⟩
theorem ops_inG {F : Value → Value → Sem Value} {neg : Bool} (cc : Cc G X W) (h1 : OpR X F (rIn X.K neg))
    (h2 : OpR X F (fun x y H Q => ∃ (c : Nat) (z : Str), x = .str ⟨#[c]⟩ ∧ y = .str z ∧ Q (.bl (if neg then !decide (c ∈ z.cps.toList) else decide (c ∈ z.cps.toList))) H)) : OpS G X W F (inF neg) := by
  intro pins s σ H x y v u Q ρ S d1 d2 I rx ry rl r1 r2 p
  unfold inF at p
  cases q : seqD S d2 with
  | some ds =>
    simp only [q] at p
    by_cases h : (flatD d1 && ds.all flatD) = true
    · rw [if_pos h] at p
      obtain ⟨f1, f2⟩ := ba h
      obtain ⟨a, xs, rfl, sq, rs⟩ := seqD_rel rl r2 q
      refine h1 pins s σ H _ _ v u Q I rx ry ⟨a, xs, rfl, by rw [cc.k]; exact sq, flat_rel r1 f1, all_flat rs f2, ?_⟩
      unfold inV
      rw [any_eq r1 f1 rs f2]
      exact post_ok p rl (.bl _)
    · rw [if_neg h] at p
      exact p.elim
  | none =>
    simp only [q] at p
    cases r1 with
    | str l =>
      match l, rx, p with
      | [c], rx, p =>
        cases r2 with
        | str z => exact h2 pins s σ H _ _ v u Q I rx ry ⟨c, _, rfl, rfl, by simpa using post_ok p rl (.bl _)⟩
        | _ => exact p.elim
      | [], _, p => cases r2 <;> exact p.elim
      | _ :: _ :: _, _, p => cases r2 <;> exact p.elim
    | _ => cases r2 <;> exact p.elim
theorem ops_in (cc : Cc G X W) : OpS G X W (compareOp .In) (inF false) := ops_inG cc op_in_seq fun pins s σ H x y v u Q I rx ry ⟨c, z, e1, e2, q⟩ => op_in_sign pins s σ H x y v u Q I rx ry ⟨c, z, e1, e2, q⟩
theorem ops_notIn (cc : Cc G X W) : OpS G X W (compareOp .NotIn) (inF true) := ops_inG cc op_notIn_seq fun pins s σ H x y v u Q I rx ry ⟨c, z, e1, e2, q⟩ => op_notIn_sign pins s σ H x y v u Q I rx ry ⟨c, z, e1, e2, q⟩
def repF : D → D → Store → Res D := fun x y S => match tupD x, y with
  | some ds, .int k => if ds ≠ [] ∧ 2 ≤ k ∧ k ≤ 1000 ∧ ds.length ≤ 1000 then .ok (.tup (List.replicate k.toNat ds).flatten) S else .bad
  | _, _ => .bad
theorem ops_rep (cc : Cc G X W) : OpS G X W (binaryOp .Mult) repF := by
  intro pins s σ H x y v u Q ρ S d1 d2 I rx ry rl r1 r2 p
  unfold repF at p
  cases q : tupD d1 with
  | none => simp only [q] at p; exact p.elim
  | some ds =>
    cases r2 with
    | int k =>
      simp only [q] at p
      by_cases h : ds ≠ [] ∧ 2 ≤ k ∧ k ≤ 1000 ∧ ds.length ≤ 1000
      · rw [if_pos h] at p
        obtain ⟨h1, h2, h3, h4⟩ := h
        obtain ⟨a, xs, rfl, sq, rs⟩ := tupD_rel r1 q
        have rep : ∀ n, RVs G ρ H (List.replicate n ds).flatten (List.replicate n xs).flatten := fun n => by
          induction n with
          | zero => exact .nil
          | succ n ih => rw [List.replicate_succ, List.replicate_succ]; exact rs.append ih
        refine op_repT pins s σ H _ _ v u Q I rx ry ⟨a, k, xs, rfl, rfl, by rw [cc.k]; exact sq, fun z => h1 ?_, h2, h3, by rw [← rs.length]; exact h4, fun b hb => post_new p rl hb (.tup upd_same ((rep k.toNat).mono (Le.new hb)))⟩
        have e := rs.length
        rw [z] at e
        exact List.eq_nil_of_length_eq_zero (by simpa using e)
      · rw [if_neg h] at p
        exact p.elim
    | _ => simp only [q] at p; exact p.elim
structure LenS (G : Gx) (X : Cx) (c : Nat) (g : FN) : Prop where
  ex : ∃ C f k, G.cls c = some C ∧ PySem.W.findIn X.K (.ref C) "__len__" = some (some (.ref f)) ∧ PySem.W.isFn X.K (.ref f) = true ∧ FnR X.prog X.w X.K X.mg X.base (L2.CX X.prog X.w) k f (spG G g) ∧ Room (k + 1) X.A
end
end L2.Mi

set_option Elab.async false
set_option linter.all false
set_option maxRecDepth 100000
set_option maxHeartbeats 4000000
namespace L2.Mi
open PySem PySem.Spec PyProof.Rows
theorem two_le (n : Nat) : 2 ≤ lv n + 1 := by rw [lv_eq]; omega
def lsN (S : Store) : D → Option (List D)
  | .lv ds => some ds
  | .ref i => (match S.get i with | some (.lst ds) => some ds | _ => none)
  | _ => none
def catR : D → D → Store → Res D := fun x y S => match lsN S x, lsN S y with
  | some a, some b => if a.length + b.length ≤ lim then .ok (.ref S.size) (S.push (.lst (a ++ b))) else .bad
  | _, _ => .bad
section
variable {G : Gx} {X : Cx} {W : WX} {ρ : Wd} {H : Hp} {S : Store}
theorem lsN_rel {d : D} {x : V} {ds : List D} (rl : Rl G ρ S H) (rv : RV G ρ H d x) (h : lsN S d = some ds) : ∃ a xs, x = .ref a ∧ H a = some (.lst xs) ∧ RVs G ρ H ds xs := by
  cases rv with
  | lv n ht hr => cases h; exact ⟨_, _, rfl, ht, hr⟩
  | @ref i a hi =>
    unfold lsN at h
    cases q : S.get i with
    | none => simp only [q] at h; cases h
    | some o =>
      cases o with
      | lst es =>
        simp only [q] at h
        cases h
        obtain ⟨u, h1, h2⟩ := rl.at hi q
        cases h2 with
        | lst r => exact ⟨a, _, rfl, h1, r⟩
      | _ => simp only [q] at h; cases h
  | _ => cases h
theorem ops_catR : OpS G X W (binaryOp .Add) catR := by
  intro pins s σ H x y v u Q ρ S d1 d2 I rx ry rl r1 r2 p
  unfold catR at p
  cases q1 : lsN S d1 with
  | none => simp only [q1] at p; exact p.elim
  | some a =>
    cases q2 : lsN S d2 with
    | none => simp only [q1, q2] at p; exact p.elim
    | some b =>
      simp only [q1, q2] at p
      by_cases hl : a.length + b.length ≤ lim
      · rw [if_pos hl] at p
        obtain ⟨a1, xs, rfl, h1, k1⟩ := lsN_rel rl r1 q1
        obtain ⟨a2, ys, rfl, h2, k2⟩ := lsN_rel rl r2 q2
        refine op_cat pins s σ H _ _ v u Q I rx ry ⟨a1, a2, xs, ys, rfl, rfl, h1, h2, by rw [← k1.length, ← k2.length]; exact lim_le hl, fun z hz => ?_⟩
        exact p (ρ.push z) _ _ (Le.push hz) (rl.push hz (.lst (k1.append k2))) (RV.new rl)
      · rw [if_neg hl] at p
        exact p.elim
end
/-- the class C's __init__ sets f -/
structure XInit (P : Program) (w : World) (K : Fg) (mg : Str → Option Value) (base : Heap) (C f : Str) : Prop where
  ex : ∃ fd ps, FnOk P w K mg base (L2.CX P w) 1 (He.ma K (He.ga K C) "__init__") fd ps (spX K f) ∧ Binds K fd ps []
section
variable {L : Lw} {K : Fg} {c : L.Says K} {X : Cx} {W : WX} {C f : Str}
theorem clsv_of (c : L.Says K) (ci : Nat) (h : L.xcl[ci]? = some C) : (L.gx K c).clsv ci = some (.ref (He.ga K C)) := by
  show (L.xcl[ci]?).map (fun C => Value.ref (He.ga K C)) = _
  rw [h]
  rfl
theorem noat_of (c : L.Says K) (i : Nat) (h : L.fa[i]? = some (.noat C f)) : PySem.W.findIn K (.ref (He.ga K C)) f = some none := He.eqO_ok (c.fact i h)
theorem ss_raiseL {e : Expr} {m : ME} {p pos pos2 : Pos} (ci fi i1 i2 i3 : Nat) (cc : Cc (L.gx K c) X W) (NS : Ns K X.mg) (hx : L.xcl[ci]? = some C) (h1 : L.fa[i1]? = some (.oex C)) (h2 : L.fa[i2]? = some (.noat C f)) (h3 : L.fa[i3]? = some (.glo C)) (hf : fldOf L.flds fi = f)
    (F : XInit X.prog X.w K X.mg X.base C f) (hr : Room 2 X.A) (hg : Gl X C) (he : SE (L.gx K c) X W e m)
    (hdb : (C == ("__debug__" : Str)) = false := by decide) (hs : starEach [e] X.env = (false, eval e X.env) :: starEach [] X.env := by rfl) (hpl : (backTo pos (starEach [] X.env)).any (·.1) = false := by rfl) :
    SS (L.gx K c) X W (.Raise (some (.Call (.Name C p) [e] [] pos)) none pos2) (sRaise ci fi m) := by
  have hk : X.K = K := cc.k
  subst hf
  obtain ⟨fd, ps, F, hb⟩ := F.ex
  have t1 : XC X.K (He.ga K C) (He.ma K (He.ga K C) "__init__") := by rw [hk]; exact xc_of c i1 h1
  have t2 : PySem.W.findIn X.K (.ref (He.ga K C)) (fldOf L.flds fi) = some none := by rw [hk]; exact noat_of c i2 h2
  have t3 : FnOk X.prog X.w X.K X.mg X.base (L2.CX X.prog X.w) 1 (He.ma K (He.ga K C) "__init__") fd ps (spX X.K (fldOf L.flds fi)) := by rw [hk]; exact F
  exact ss_raise (G := L.gx K c) (k := 1) cc t1 (clsv_of c ci hx) t2 t3 hr (by rw [hk]; exact hb) hg (NS.glo c i3 h3) he hdb hs hpl
def Fm.exq (A B : Str) : Fm → Option Bool
  | .exm A2 B2 b => if A2 = A ∧ B2 = B then some b else none
  | _ => none
def Lw.isx (L : Lw) (i j : Nat) : Option Bool := match L.xcl[i]?, L.xcl[j]? with
  | some A, some B => L.fa.findSome? (Fm.exq A B)
  | _, _ => none
end
end L2.Mi

set_option Elab.async false
set_option linter.all false
set_option maxRecDepth 100000
set_option maxHeartbeats 1000000
namespace L2.Mi
open PySem
def forL (g : MG) (b : MS) : List D → MS
  | [] => fun σ S => .nx σ S
  | d :: ds => fun σ S => match g d σ S with
    | .ok σ1 S1 => (match b σ1 S1 with
      | .nx σ2 S2 => forL g b ds σ2 S2
      | .ct σ2 S2 => forL g b ds σ2 S2
      | .bk σ2 S2 => .nx σ2 S2
      | r => r)
    | _ => .bad
theorem forL_cons {g : MG} {b : MS} {d : D} {ds : List D} {σ : En} {S : Store} : forL g b (d :: ds) σ S = (match g d σ S with
    | .ok σ1 S1 => (match b σ1 S1 with
      | .nx σ2 S2 => forL g b ds σ2 S2
      | .ct σ2 S2 => forL g b ds σ2 S2
      | .bk σ2 S2 => .nx σ2 S2
      | r => r)
    | _ => .bad) := (rfl)
theorem forGo_list {src : Src} {g : MG} {b : MS} {ds : List D} (h : ∀ k S, src k S = some ds[k]?) : ∀ (n k : Nat) (σ : En) (S : Store), ds.length < n + k → k ≤ ds.length → forGo src g b n k σ S = forL g b (ds.drop k) σ S
  | 0, k, σ, S, h1, h2 => absurd h1 (by omega)
  | n + 1, k, σ, S, h1, h2 => by
    unfold forGo
    rw [h k S]
    by_cases hk : k < ds.length
    · rw [List.getElem?_eq_getElem hk, List.drop_eq_getElem_cons hk, forL_cons]
      simp only
      cases g ds[k] σ S with
      | ok σ1 S1 =>
        simp only
        cases b σ1 S1 with
        | nx σ2 S2 => exact forGo_list h n (k + 1) σ2 S2 (by omega) (by omega)
        | ct σ2 S2 => exact forGo_list h n (k + 1) σ2 S2 (by omega) (by omega)
        | _ => rfl
      | _ => rfl
    · rw [List.getElem?_eq_none (by omega), List.drop_eq_nil_of_le (by omega)]
      rfl
/-- a value's items -/
def itsD : D → Option (List D)
  | .tup ds => some ds
  | .kt ds => some ds
  | .lv ds => some ds
  | .fl ds => some ds
  | _ => none
theorem src_its {m : ME} {σ : En} {S S1 : Store} {d : D} {ds : List D} (ha : m σ S = .ok d S1) (hd : itsD d = some ds) : ∃ src, iSeq m σ S = .ok src S1 ∧ ∀ k S, src k S = some ds[k]? := by
  unfold iSeq
  rw [ha, bind_ok']
  cases d <;> cases hd <;> exact ⟨_, rfl, fun k S => rfl⟩
def ups (i : Int) (n : Nat) : List D := (List.range n).map fun (k : Nat) => D.int (i + (k : Int))
theorem ups_len {i : Int} {n : Nat} : (ups i n).length = n := by unfold ups; simp
theorem ups_get {i : Int} {n k : Nat} : (if k < n then some (D.int (i + (k : Int))) else none) = (ups i n)[k]? := by
  unfold ups
  rw [List.getElem?_map]
  by_cases h : k < n
  · rw [if_pos h, List.getElem?_range h]; rfl
  · rw [if_neg h, List.getElem?_eq_none (by simpa using h)]; rfl
theorem i62_of {j : Int} (h0 : -1000000 < j) (h1 : j < 1000000) : i62 j = true := by
  unfold i62
  rw [Bool.and_eq_true, decide_eq_true_eq, decide_eq_true_eq]
  constructor <;> omega
theorem src_r1 {a : ME} {σ : En} {S S1 : Store} {j : Int} (ha : a σ S = .ok (.int j) S1) (h0 : -1000000 < j) (h1 : j < 1000000) : ∃ src, iRange1 a σ S = .ok src S1 ∧ ∀ k S, src k S = some (ups 0 j.toNat)[k]? := by
  unfold iRange1
  rw [ha, bind_ok']
  simp only [i62_of h0 h1, if_true]
  exact ⟨_, rfl, fun k S => by rw [← ups_get]⟩
end L2.Mi

set_option Elab.async false
set_option linter.all false
set_option maxRecDepth 100000
set_option maxHeartbeats 1000000
namespace L2.Mi
open PySem
mutual
def noRef : D → Bool
  | .ref _ => false
  | .tup ds => noRefs ds
  | .kt ds => noRefs ds
  | .ex _ _ ds => noRefs ds
  | .cx _ => true
  | .lm _ => true
  | .lv ds => noRefs ds
  | .fl ds => noRefs ds
  | .dv _ _ => false
  | .non => true
  | .bl _ => true
  | .int _ => true
  | .str _ => true
  | .ty _ => true
  | .cl _ => true
  | .fn _ => true
def noRefs : List D → Bool
  | [] => true
  | d :: ds => noRef d && noRefs ds
end
def noRefF : List (Nat × D) → Bool
  | [] => true
  | q :: r => noRef q.2 && noRefF r
section
variable {G : Gx} {ρ ρ2 : Wd} {H : Hp}
mutual
theorem RV.other (h : ∀ a, ρ.no a → ρ2.no a) : ∀ {d : D} {v : V}, noRef d = true → RV G ρ H d v → RV G ρ2 H d v
  | _, _, _, .non => .non
  | _, _, _, .bl b => .bl b
  | _, _, _, .int i => .int i
  | _, _, _, .str x => .str x
  | _, _, _, .ty n => .ty n
  | _, _, _, .cl q => .cl q
  | _, _, _, .fn q => .fn q
  | _, _, z, .ref _ => nomatch z
  | _, _, z, .tup q r => .tup q (RVs.other h (by simpa [noRef] using z) r)
  | _, _, z, .fl q r => .fl q (RVs.other h (by simpa [noRef] using z) r)
  | _, _, z, .kt q r => .kt q (RVs.other h (by simpa [noRef] using z) r)
  | _, _, _, .cx e => .cx e
  | _, _, _, .lm e q k => .lm e q k
  | _, _, z, .ex e q k r => .ex e q k (RVs.other h (by simpa [noRef] using z) r)
  | _, _, z, .lv n q r => .lv (h _ n) q (RVs.other h (by simpa [noRef] using z) r)
  | _, _, z, .dvK _ _ _ => by simp [noRef] at z
  | _, _, z, .dvT _ _ _ => by simp [noRef] at z
theorem RVs.other (h : ∀ a, ρ.no a → ρ2.no a) : ∀ {ds : List D} {vs : List V}, noRefs ds = true → RVs G ρ H ds vs → RVs G ρ2 H ds vs
  | _, _, _, .nil => .nil
  | _, _, z, .cons r t => by
    simp only [noRefs, Bool.and_eq_true] at z
    exact .cons (RV.other h z.1 r) (RVs.other h z.2 t)
end
theorem RFs.other (h : ∀ a, ρ.no a → ρ2.no a) : ∀ {fs : List (Nat × D)} {us : List (Str × V)}, noRefF fs = true → RFs G ρ H fs us → RFs G ρ2 H fs us
  | _, _, _, .nil => .nil
  | _, _, z, .cons r t => by
    simp only [noRefF, Bool.and_eq_true] at z
    exact .cons (r.other h z.1) (RFs.other h z.2 t)
/-- all that stands is hidden -/
def Wd.all (ρ : Wd) : Wd := ⟨[], ρ.v ++ ρ.h⟩
theorem Rl.some {S : Store} (r : Rl G ρ S H) {a : Addr} (h : a ∈ ρ.v) : SmO (H a) := by
  obtain ⟨i, hl, e⟩ := List.getElem_of_mem h
  obtain ⟨o, ho⟩ := Store.all (S := S) i (by rw [← r.len]; exact hl)
  obtain ⟨b, u, h1, h2, h3⟩ := r.ob i o ho
  rw [List.getElem?_eq_getElem hl, e] at h1
  cases h1
  rw [h2]
  exact h3.ntb
theorem Rl.all {S : Store} (r : Rl G ρ S H) : Rl G ρ.all ⟨[]⟩ H := by
  refine ⟨rfl, List.nodup_nil, fun a ha => ⟨by simp [Wd.all], ?_⟩, fun i o h => (nomatch (show (none : Option Ob) = Option.some o from h)), r.tb⟩
  rcases List.mem_append.mp ha with h | h
  · exact r.some h
  · exact (r.hh a h).2
end
end L2.Mi

set_option Elab.async false
set_option linter.all false
set_option maxRecDepth 100000
set_option maxHeartbeats 1000000
namespace L2.Mi
open PySem PySem.Spec PyProof.Rows
def isStr (d : D) (_ : Store) : Bool := match d with | .str _ => true | _ => false
section
variable {G : Gx} {X : Cx} {W : WX}
theorem ck_str : ∀ ρ S H d x, Rl G ρ S H → RV G ρ H d x → isStr d S = true → tyV X.K "str" x H := fun ρ S H d x rl rv h => by
  cases rv <;> first | rfl | cases h
def strsD : List D → Option (List (List Nat))
  | [] => some []
  | .str x :: ds => (strsD ds).map (x :: ·)
  | _ :: _ => none
theorem strs_rel {ρ : Wd} {H : Hp} : ∀ {ds : List D} {vs : List V} {ys : List (List Nat)}, RVs G ρ H ds vs → strsD ds = some ys → vs = (ys.map fun y => (⟨y.toArray⟩ : Str)).map V.str
  | _, _, _, .nil, h => by cases h; rfl
  | _, _, ys, .cons (d := d) (ds := ds) r t, h => by
    cases r with
    | str x =>
      unfold strsD at h
      cases q : strsD ds with
      | none => rw [q] at h; cases h
      | some zs =>
        rw [q] at h
        cases h
        simp [strs_rel t q]
    | _ => cases h
def totL (ys : List (List Nat)) : Nat := (ys.map List.length).sum
def joinF : D → List D → Store → Res D := fun o xs S => match o, xs with
  | .str a, [l] => (match seqD S l with
    | some ds => (match strsD ds with
      | some ys => if totL ys + ys.length * a.length ≤ 1000000 then .ok (.str (TL.joinL a ys)) S else .bad
      | none => .bad)
    | none => .bad)
  | _, _ => .bad
theorem mts_join (cc : Cc G X W) : MtS G X W "str.join" joinF := MtS.of mt_join fun ρ S H d ds x xs Q E rl r1 r2 p => by
  unfold joinF at p
  cases r1 with
  | str a =>
    match ds, r2, p with
    | [l], .cons r .nil, p =>
      cases q : seqD S l with
      | none => simp only [q] at p; exact p.elim
      | some es =>
        simp only [q] at p
        cases q2 : strsD es with
        | none => simp only [q2] at p; exact p.elim
        | some ys =>
          simp only [q2] at p
          by_cases hl : totL ys + ys.length * a.length ≤ 1000000
          · rw [if_pos hl] at p
            obtain ⟨b, vs, rfl, sq, rs⟩ := seqD_rel rl r q
            have e := strs_rel rs q2
            subst e
            refine ⟨⟨a.toArray⟩, b, ys.map fun y => (⟨y.toArray⟩ : Str), rfl, rfl, by rw [cc.k]; exact sq, ?_, ?_⟩
            · have e1 : ((ys.map fun y => (⟨y.toArray⟩ : Str)).map (·.length)).sum = totL ys := by
                unfold totL
                rw [List.map_map]
                exact congrArg List.sum (List.map_congr_left fun y _ => by simp [Str.length])
              rw [e1, List.length_map]
              have e2 : (⟨a.toArray⟩ : Str).length = a.length := by simp [Str.length]
              rw [e2]
              omega
            · have z := SX.join_S a ys
              have z2 : Txt.join (⟨a.toArray⟩ : Str) (ys.map fun y => (⟨y.toArray⟩ : Str)) = ⟨(TL.joinL a ys).toArray⟩ := z
              rw [z2]
              exact post_ok p rl (.str _)
          · rw [if_neg hl] at p
            exact p.elim
    | [], _, p => exact p.elim
    | _ :: _ :: _, _, p => exact p.elim
  | _ => exact p.elim
def iTxt (m : ME) : MI := fun σ S => (m σ S).bind fun d S1 => match d with
  | .str l => .ok (fun k _ => some ((l[k]?).map fun c => .str [c])) S1
  | _ => .bad
theorem jr_txt {ρ0 : Wd} {H0 : Hp} {l : List Nat} : JR G ρ0 H0 (fun k _ => some ((l[k]?).map fun c => D.str [c])) (Its ⟨l.toArray⟩) := by
  intro ρ S H lm kz rl i
  refine ⟨fun e h => ?_, fun h => ?_⟩
  · have h : some ((l[i]?).map fun c => D.str [c]) = some (some e) := h
    cases q : l[i]? with
    | none => rw [q] at h; cases h
    | some c =>
      rw [q] at h
      cases h
      refine ⟨?_, fun y H' hy => ?_⟩
      · obtain ⟨h1, _⟩ := List.getElem?_eq_some_iff.mp q
        show i < l.toArray.size
        simpa using h1
      · obtain ⟨e2, c2, h1, h2⟩ := hy
        subst e2 h2
        have h3 : l[i]? = some c2 := by simpa using h1
        rw [q] at h3
        cases h3
        exact ⟨Le.refl, rl, .str [c]⟩
  · have h : some ((l[i]?).map fun c => D.str [c]) = some none := h
    cases q : l[i]? with
    | some c => rw [q] at h; cases h
    | none =>
      show l.toArray.size ≤ i
      simpa using List.getElem?_eq_none_iff.mp q
theorem si_txt {e tg : Expr} {m : ME} (h : SE G X W e m) : SI G X W tg e (iTxt m) := by
  refine si_of (pi_str h) fun σ H R ρ σs S rl re p => ?_
  refine ⟨ρ, σs, S, rl, re, PostR.bind (R := RV G) (r := m σs S) p fun ρ1 H1 S1 d x l1 rl1 rv1 p1 => ?_⟩
  cases rv1 with
  | str l => exact ⟨_, rfl, p1 ρ1 H1 _ Le.refl rl1 jr_txt⟩
  | _ => exact p1.elim
def intT : FN := fun xs S => match xs with
  | [.str l] => (match PySem.intText? ⟨l.toArray⟩ with | some n => if l.length ≤ 640 then .ok (.int n) S else .bad | none => .bad)
  | _ => .bad
theorem fns_intT : FnS G X W (.type "int") intT := FnS.of call_int_str fun ρ S H ds xs Q E rl r p => by
  unfold intT at p
  match ds, r, p with
  | [.str l], .cons (.str _) .nil, p =>
    cases q : PySem.intText? ⟨l.toArray⟩ with
    | none => simp only [q] at p; exact p.elim
    | some n =>
      simp only [q] at p
      by_cases hl : l.length ≤ 640
      · rw [if_pos hl] at p
        exact ⟨_, n, rfl, q, by simpa [Str.length] using hl, post_ok p rl (.int n)⟩
      · rw [if_neg hl] at p
        exact p.elim
def strI : FN := fun xs S => match xs with
  | [.int i] => if i.natAbs.log2 < 1920 then .ok (.str ((toString i : String) : Str).cps.toList) S else .bad
  | _ => .bad
theorem fns_strI : FnS G X W (.type "str") strI := FnS.of call_str_int fun ρ S H ds xs Q E rl r p => by
  unfold strI at p
  match ds, r, p with
  | [.int i], .cons (.int _) .nil, p =>
    by_cases hl : i.natAbs.log2 < 1920
    · simp only [hl, if_true] at p
      exact ⟨i, rfl, hl, post_ok p rl (rv_str _)⟩
    · simp only [hl] at p
      exact p.elim
end
end L2.Mi

set_option Elab.async false
set_option linter.all false
set_option maxRecDepth 100000
set_option maxHeartbeats 1000000
namespace L2.Mi
open PySem PySem.Spec PyProof.Rows
def eqKD : D → D → Bool
  | .int i, .int j => i == j
  | .str x, .str y => x == y
  | _, _ => false
def valD (kvs : List (D × D)) (k : D) : Option D := (kvs.find? fun q => eqKD q.1 k).map (·.2)
theorem eqKD_key {d e : D} {k j : Key} (h1 : keyD d = some k) (h2 : keyD e = some j) : eqKD d e = decide (k = j) := by
  cases d with
  | int a =>
    cases h1
    cases e with
    | int b => cases h2; by_cases h : a = b <;> simp [eqKD, h]
    | str y => cases h2; rfl
    | _ => cases h2
  | str x =>
    cases h1
    cases e with
    | int b => cases h2; rfl
    | str y =>
      cases h2
      by_cases h : x = y
      · subst h; simp [eqKD]
      · have n1 : (x == y) = false := beq_eq_false_iff_ne.mpr h
        show (x == y) = _
        rw [n1]
        symm
        refine decide_eq_false fun z => h ?_
        have z2 := congrArg (fun s : Str => s.cps.toList) (Sum.inr.inj z)
        simpa using z2
    | _ => cases h2
  | _ => cases h1
section
variable {G : Gx} {ρ : Wd} {H : Hp}
theorem valD_rel {d : D} {k : Key} (hk : keyD d = some k) : ∀ {kvs : List (D × D)} {kus : List (Key × V)}, RKs G ρ H kvs kus → (∀ v, valD kvs d = some v → ∃ u, valV kus k = some u ∧ RV G ρ H v u) ∧ (valD kvs d = none → valV kus k = none)
  | _, _, .nil => ⟨(fun v h => nomatch h), fun _ => rfl⟩
  | _, _, @RKs.cons _ _ _ e f j u kvs kus h r t => by
    have ih := valD_rel hk t
    have eq := eqKD_key h hk
    unfold valD valV at ih ⊢
    by_cases z : j = k
    · have e1 : eqKD e d = true := by rw [eq]; exact decide_eq_true z
      simp only [List.find?_cons, e1, decide_eq_true z, Option.map_some, Option.some.injEq]
      exact ⟨fun v hv => ⟨u, rfl, hv ▸ r⟩, fun hv => nomatch hv⟩
    · have e1 : eqKD e d = false := by rw [eq]; exact decide_eq_false z
      simp only [List.find?_cons, e1, decide_eq_false z]
      exact ih
theorem RKs.append : ∀ {a b : List (D × D)} {x y : List (Key × V)}, RKs G ρ H a x → RKs G ρ H b y → RKs G ρ H (a ++ b) (x ++ y)
  | _, _, _, _, .nil, r => r
  | _, _, _, _, .cons h r t, s => .cons h r (RKs.append t s)
theorem RKs.len : ∀ {a : List (D × D)} {x : List (Key × V)}, RKs G ρ H a x → a.length = x.length
  | _, _, .nil => rfl
  | _, _, .cons _ _ t => by simp [RKs.len t]
theorem key_rel {d : D} {x : V} {k : Key} (hk : keyD d = some k) (r : RV G ρ H d x) : x = kV k := by
  cases r with
  | int i => cases hk; rfl
  | str y => cases hk; rfl
  | _ => cases hk
end
end L2.Mi

set_option Elab.async false
set_option linter.all false
set_option maxRecDepth 100000
set_option maxHeartbeats 1000000
set_option Elab.async false
set_option linter.all false
set_option maxRecDepth 100000
set_option maxHeartbeats 1000000
namespace L2.Mi
open PySem PySem.Spec PyProof.Rows
/-- what stands in the field, a number -/
def fldInt (ok : Nat → Bool) (fi : Nat) (o : D) (S : Store) : Option (Nat × Nat × Int) := match o with
  | .ref n => (match S.get n with
    | some (.ins c fs) => if ok c then (match fs.lookup fi with | some (.int a) => some (n, c, a) | _ => none) else none
    | _ => none)
  | _ => none
def fldPut (fi n c : Nat) (v : D) (S : Store) : Option Store := match S.get n with
  | some (.ins c2 fs) => if c2 = c ∧ fs.length < 900 then some (S.set n (.ins c (putN fi v fs))) else none
  | _ => none
def augR (g : Int → Int → Int) (ok : Nat → Bool) (fi : Nat) (mo mv : ME) (σ : En) (S : Store) : Res Unit := (mo σ S).bind fun x S1 => match fldInt ok fi x S1 with
  | some (n, c, a) => (mv σ S1).bind fun y S2 => (match y with
    | .int b => (match fldPut fi n c (.int (g a b)) S2 with | some S3 => .ok () S3 | none => .bad)
    | _ => .bad)
  | none => .bad
def sFaug (g : Int → Int → Int) (ok : Nat → Bool) (fi : Nat) (mo mv : ME) : MS := fun σ S => match augR g ok fi mo mv σ S with
  | .ok _ S4 => .nx σ S4
  | .exc x S4 => .exc x σ S4
  | .bad => .bad
section
variable {G : Gx} {X : Cx} {W : WX} {o value : Expr} {mo mv : ME} {pos tpos : Pos} {name : Str}
theorem ss_faug {op : Operator} {g : Int → Int → Int} {rd : V → V → Hp → VK → Prop} {ok : Nat → Bool} {fi : Nat} (hop : InOp X op rd) (hrd : ∀ a b H Q, Q (.int (g a b)) H → rd (.int a) (.int b) H Q) (ho : SE G X W o mo) (hv : SE G X W value mv) (hf : G.fld fi = name)
    (hok : ∀ c, ok c = true → FieldS G X name c) : SS G X W (.AugAssign (.Attribute o name tpos) op value pos) (sFaug g ok fi mo mv) := by
  refine PS.weak (ps_fldaug ho hv hop) fun Dn σ H ⟨ρ, σs, S, rl, re, p⟩ => ?_
  have p0 : PostR (α := Unit) (β := Unit) G (fun _ _ _ _ => True) ρ H (augR g ok fi mo mv σs S) (fun _ H' => Dn.nx σ H') (EW W σ) := by
    unfold sFaug at p
    revert p
    generalize augR g ok fi mo mv σs S = r
    intro p
    cases r with
    | ok x S3 => exact fun ρ1 H1 _ l1 rl1 _ => p ρ1 H1 σ l1 rl1 (re.mono l1)
    | exc x S3 => exact fun ρ1 H1 c dd l1 rl1 rx => p ρ1 H1 σ c dd l1 rl1 (re.mono l1) rx
    | bad => exact p.elim
  unfold augR at p0
  refine ⟨ρ, σs, S, rl, re, PostR.bind (R := RV G) p0 fun ρ1 H1 S1 d x l1 rl1 rv1 p1 => ?_⟩
  cases q : fldInt ok fi d S1 with
  | none => simp only [q] at p1; exact p1.elim
  | some t =>
    obtain ⟨n, c, a⟩ := t
    simp only [q] at p1
    cases rv1 with
    | @ref m ad hi =>
      unfold fldInt at q
      cases q1 : S1.get m with
      | none => simp only [q1] at q; cases q
      | some ob =>
        cases ob with
        | ins c1 fs =>
          simp only [q1] at q
          by_cases hk : ok c1 = true
          · rw [if_pos hk] at q
            cases q2 : fs.lookup fi with
            | none => simp only [q2] at q; cases q
            | some v =>
              cases v with
              | int a1 =>
                simp only [q2] at q
                cases q
                obtain ⟨u, hu, ro⟩ := rl1.at hi q1
                cases ro with
                | @ins _ C dx _ us hC hfs =>
                  obtain ⟨C2, hC2, hcl, hna⟩ := (hok c hk).ex
                  rw [hC] at hC2
                  cases hC2
                  obtain ⟨w, hw, rw'⟩ := rfs_look hfs q2
                  cases rw'
                  refine ⟨ad, C, dx, us, .int a, rfl, hu, hcl, hna, by rw [← hf]; exact hw, ρ1, σs, S1, rl1, re.mono l1, PostR.bind (R := RV G) p1 fun ρ2 H2 S2 y z l2 rl2 rv2 p2 => ?_⟩
                  cases rv2 with
                  | int b =>
                    simp only at p2
                    refine hrd a b H2 _ ?_
                    cases q3 : fldPut fi n c (.int (g a b)) S2 with
                    | none => simp only [q3] at p2; exact p2.elim
                    | some S3 =>
                      simp only [q3] at p2
                      unfold fldPut at q3
                      have hi2 := pre_get l2.pre hi
                      cases q4 : S2.get n with
                      | none => simp only [q4] at q3; cases q3
                      | some ob2 =>
                        cases ob2 with
                        | ins c2 fs2 =>
                          simp only [q4] at q3
                          by_cases hc : c2 = c ∧ fs2.length < 900
                          · rw [if_pos hc] at q3
                            obtain ⟨rfl, hl⟩ := hc
                            cases q3
                            obtain ⟨u2, hu2, ro2⟩ := rl2.at hi2 q4
                            cases ro2 with
                            | @ins _ C3 dx2 _ us2 hC3 hfs2 =>
                              rw [hC] at hC3
                              cases hC3
                              refine ⟨dx2, us2, hu2, by rw [← hfs2.length]; omega, ?_⟩
                              rw [← hf]
                              exact p2 ρ2 _ () (rl2.leUpd hi2 hu2 trivial) (rl2.set hi2 q4 hu2 trivial (.ins hC (putN_rel (.int _) hfs2))) trivial
                          · rw [if_neg hc] at q3
                            cases q3
                        | _ => simp only [q4] at q3; cases q3
                  | _ => exact p2.elim
              | _ => simp only [q2] at q; cases q
          · rw [if_neg hk] at q
            cases q
        | _ => simp only [q1] at q; cases q
    | _ => cases q
theorem ss_faugA {ok : Nat → Bool} {fi : Nat} (ho : SE G X W o mo) (hv : SE G X W value mv) (hf : G.fld fi = name) (hok : ∀ c, ok c = true → FieldS G X name c) : SS G X W (.AugAssign (.Attribute o name tpos) .Add value pos) (sFaug (· + ·) ok fi mo mv) :=
  ss_faug in_add (fun a b H Q q => ⟨a, b, rfl, rfl, q⟩) ho hv hf hok
theorem ss_faugM {ok : Nat → Bool} {fi : Nat} (ho : SE G X W o mo) (hv : SE G X W value mv) (hf : G.fld fi = name) (hok : ∀ c, ok c = true → FieldS G X name c) : SS G X W (.AugAssign (.Attribute o name tpos) .Sub value pos) (sFaug (· - ·) ok fi mo mv) :=
  ss_faug in_sub (fun a b H Q q => ⟨a, b, rfl, rfl, q⟩) ho hv hf hok
end
end L2.Mi

set_option Elab.async false
set_option linter.all false
set_option maxRecDepth 100000
set_option maxHeartbeats 1000000
namespace L2.Mi
open PySem PySem.Spec PyProof.Rows
theorem dic_ho {G : Gx} {ρ : Wd} {H : Hp} {t : Bool} {kvs : List (D × D)} {u : HO} (h : RO G ρ H (.dic t kvs) u) : NoT u ∧ Mut (some u) ∧ ∀ o, ¬ IsT (.frz o u) := by
  cases h with
  | dK _ => exact ⟨trivial, trivial, fun _ z => z⟩
  | dT _ => exact ⟨trivial, trivial, fun _ z => z⟩
section
variable {G : Gx} {ρ ρ1 : Wd} {H H1 : Hp} {S S1 : Store} {n : Nat} {a : Addr} {u : HO} {od : Obj}
theorem unlock_le (rl : Rl G ρ S H) (hi : ρ.v[n]? = some a) (hu : H a = some u) (nt : NoT u) (l : Le G ρ (L2.upd H a (.frz od u)) ρ1 H1) : Le G ρ H ρ1 (L2.upd H1 a u) := by
  have am : a ∈ ρ.v := List.mem_of_getElem? hi
  have nb : ∀ b, ρ.no b → b ≠ a := fun b h z => h.1 (by rw [z]; exact am)
  refine ⟨l.pre, l.hid, fun b w t h => ?_, fun b xs nn h => ?_, fun b w nn k h => ?_, fun b nn h => ?_, fun b hb h => ?_, fun b o w h => ?_⟩
  · have ne : b ≠ a := fun z => by
      rw [z, hu] at h
      cases h
      exact nt.no t
    rw [upd_ne ne]
    exact l.tk b w t (by rw [upd_ne ne]; exact h)
  · rw [upd_ne (nb b nn)]
    exact l.kl b xs nn (by rw [upd_ne (nb b nn)]; exact h)
  · have h2 : Rd (L2.upd H a (.frz od u)) b w := by
      rcases h with h | ⟨o, h⟩
      · exact .inl (by rw [upd_ne (nb b nn)]; exact h)
      · exact .inr ⟨o, by rw [upd_ne (nb b nn)]; exact h⟩
    rcases l.kp b w nn k h2 with h | ⟨o, h⟩
    · exact .inl (by rw [upd_ne (nb b nn)]; exact h)
    · exact .inr ⟨o, by rw [upd_ne (nb b nn)]; exact h⟩
  · have z := l.ni b nn (by rw [upd_ne (nb b nn)]; exact h)
    exact ⟨z.1, by rw [upd_ne (nb b nn)]; exact z.2⟩
  · have ne : b ≠ a := fun z => rl.nh hi (by rw [← z]; exact hb)
    rw [upd_ne ne]
    have z := l.kh b hb (by rw [upd_ne ne]; exact h)
    rw [upd_ne ne] at z
    exact z
  · have ne : b ≠ a := fun z => by
      rw [z, hu] at h
      cases h
      exact nt
    rw [upd_ne ne]
    exact l.kz b o w (by rw [upd_ne ne]; exact h)
theorem unlock_rl {o : Ob} (r1 : Rl G ρ1 S1 H1) (hi : ρ1.v[n]? = some a) (h1 : H1 a = some (.frz od u)) (it : ¬ IsT (.frz od u)) (ro : RO G ρ1 (L2.upd H1 a u) o u) : Rl G ρ1 (S1.set n o) (L2.upd H1 a u) := by
  have am : a ∈ ρ1.v := List.mem_of_getElem? hi
  have nb : ∀ b, ρ1.no b → b ≠ a := fun b h z => h.1 (by rw [z]; exact am)
  have mv : Mv G ρ1 H1 ρ1 (L2.upd H1 a u) := ⟨fun _ _ h => h, fun b w t h => by
      rw [upd_ne (show b ≠ a from fun z => by rw [z, h1] at h; cases h; exact it t)]
      exact h, fun b xs nn h => ⟨nn, by rw [upd_ne (nb b nn)]; exact h⟩, fun b w nn k h => ⟨nn, by
      rcases h with h | ⟨q, h⟩
      · exact .inl (by rw [upd_ne (nb b nn)]; exact h)
      · exact .inr ⟨q, by rw [upd_ne (nb b nn)]; exact h⟩⟩⟩
  refine ⟨by rw [Store.size_set]; exact r1.len, r1.nd, fun b hb => ⟨(r1.hh b hb).1, ?_⟩, fun j ob e => ?_, tabs_upd r1.tb h1 (fun z => z)⟩
  · rw [upd_ne (show b ≠ a from fun z => r1.nh hi (by rw [← z]; exact hb))]
    exact (r1.hh b hb).2
  · by_cases hj : n = j
    · subst hj
      have hl : n < S1.size := by rw [← r1.len]; exact (List.getElem?_eq_some_iff.mp hi).1
      rw [Store.get_set_same hl] at e
      cases e
      exact ⟨a, u, hi, upd_same, ro⟩
    · rw [Store.get_set_ne hj] at e
      obtain ⟨b, w, k1, k2, k3⟩ := r1.ob j ob e
      exact ⟨b, w, k1, by rw [upd_ne (show b ≠ a from fun z => hj (nd_get r1.nd hi (by rw [← z]; exact k1)))]; exact k2, k3.move mv⟩
end
end L2.Mi

set_option Elab.async false
set_option linter.all false
set_option maxRecDepth 100000
set_option maxHeartbeats 1000000
namespace L2.Mi
open PySem PySem.Spec PyProof.Rows
def iKy (m : ME) : MI := fun σ S => (m σ S).bind fun d S1 => match d with
  | .ref n => (match S1.get n with
    | some (.lck (.dic false kvs)) => .ok (fun k _ => some ((kvs[k]?).map (·.1))) S1
    | _ => .bad)
  | _ => .bad
section
variable {G : Gx} {X : Cx} {W : WX} {e tg : Expr} {m : ME}
theorem RKs.get {ρ : Wd} {H : Hp} : ∀ {kvs : List (D × D)} {kus : List (Key × V)} {i : Nat} {q : D × D}, RKs G ρ H kvs kus → kvs[i]? = some q → ∃ k v, kus[i]? = some (k, v) ∧ keyD q.1 = some k
  | _, _, _, _, .nil, h => by simp at h
  | _, _, 0, _, .cons (k := k) (v := v) h r t, q => by simp at q; subst q; exact ⟨k, v, rfl, h⟩
  | _, _, i + 1, q, .cons h r t, z => by
    obtain ⟨k, v, h1, h2⟩ := RKs.get (i := i) (q := q) t (by simpa using z)
    exact ⟨k, v, by simpa using h1, h2⟩
theorem rv_key {ρ : Wd} {H : Hp} {d : D} {k : Key} (h : keyD d = some k) : RV G ρ H d (kV k) := by
  cases d with
  | int i => cases h; exact .int i
  | str x => cases h; exact .str x
  | _ => cases h
theorem si_ky (h : SE G X W e m) : SI G X W tg e (iKy m) := by
  refine si_of (pi_keys h) fun σ H R ρ σs S rl re p => ?_
  refine ⟨ρ, σs, S, rl, re, PostR.bind (R := RV G) (r := m σs S) p fun ρ1 H1 S1 d x l1 rl1 rv1 p1 => ?_⟩
  cases rv1 with
  | @ref n a hi =>
    cases q : S1.get n with
    | none => simp only [q] at p1; exact p1.elim
    | some ob =>
      cases ob with
      | lck o2 =>
        cases o2 with
        | dic t kvs =>
          cases t with
          | true => simp only [q] at p1; exact p1.elim
          | false =>
            simp only [q] at p1
            obtain ⟨u, hu, ro⟩ := rl1.at hi q
            cases ro with
            | @lck _ ob u2 ro =>
              cases ro with
              | @dK _ kus r =>
                refine ⟨a, ob, rfl, .inl ⟨kus, hu, p1 ρ1 H1 _ Le.refl rl1 ?_⟩⟩
                intro ρ2 S2 H2 mv kz rl2 i
                refine ⟨fun d hd => ?_, fun hd => ?_⟩
                · have hd : some ((kvs[i]?).map (·.1)) = some (some d) := hd
                  cases q3 : kvs[i]? with
                  | none => rw [q3] at hd; cases hd
                  | some z =>
                    rw [q3] at hd
                    cases hd
                    obtain ⟨k, v, h1, h2⟩ := RKs.get r q3
                    refine ⟨⟨kz a _ _ hu, (List.getElem?_eq_some_iff.mp h1).1⟩, fun y H3 hy => ?_⟩
                    obtain ⟨e1, k2, v2, h3, h4⟩ := hy
                    rw [h1] at h3
                    cases h3
                    subst e1 h4
                    exact ⟨Le.refl, rl2, rv_key h2⟩
                · have hd : some ((kvs[i]?).map (·.1)) = some none := hd
                  cases q3 : kvs[i]? with
                  | some z => rw [q3] at hd; cases hd
                  | none => exact ⟨kz a _ _ hu, by rw [← r.len]; exact List.getElem?_eq_none_iff.mp q3⟩
        | _ => simp only [q] at p1; exact p1.elim
      | _ => simp only [q] at p1; exact p1.elim
  | _ => exact p1.elim
end
end L2.Mi

set_option Elab.async false
set_option linter.all false
set_option maxRecDepth 100000
set_option maxHeartbeats 1000000
namespace L2.Mi
open PySem PySem.Spec PyProof.Rows
def dicL (S : Store) : D → Option (List (D × D))
  | .ref a => (match S.get a with | some (.lck (.dic false kvs)) => some kvs | _ => none)
  | _ => none
def dgetL : D → D → Store → Res D := fun x y S => match dicL S x, keyD y with
  | some kvs, some _ => (match valD kvs y with | some v => .ok v S | none => .bad)
  | _, _ => .bad
section
variable {G : Gx} {ρ : Wd} {H : Hp} {S : Store} {X : Cx} {W : WX} {o i : Expr} {mo me : ME} {pos : Pos}
theorem dicL_rel {d : D} {x : V} {kvs : List (D × D)} (rl : Rl G ρ S H) (rv : RV G ρ H d x) (h : dicL S d = some kvs) : ∃ a kus, x = .ref a ∧ Rd H a (.dK kus) ∧ RKs G ρ H kvs kus := by
  cases rv with
  | @ref n a hi =>
    have h : (match S.get n with | some (.lck (.dic false kvs)) => some kvs | _ => none) = some kvs := h
    cases q : S.get n with
    | none => rw [q] at h; cases h
    | some ob =>
      rw [q] at h
      cases ob with
      | lck o2 =>
        cases o2 with
        | dic t ks =>
          cases t with
          | true => cases h
          | false =>
            cases h
            obtain ⟨u, hu, ro⟩ := rl.at hi q
            cases ro with
            | @lck _ ob u2 ro =>
              cases ro with
              | dK r => exact ⟨a, _, rfl, .inr ⟨ob, hu⟩, r⟩
        | _ => cases h
      | _ => cases h
  | _ => cases h
theorem se_dgetL (hu : X.A.units + 64 < cLine) (ho : SE G X W o mo) (hi : SE G X W i me) (hs : NoSl i := by intro _ _; rfl) : SE G X W (.Subscript o i pos) (eBin dgetL mo me) := by
  refine se_of (pe_dget (by omega) ho hi hs) fun σ H Q ρ σs S rl re p => ?_
  refine ⟨ρ, σs, S, rl, re, PostR.bind (R := RV G) (r := mo σs S) p fun ρ1 H1 S1 d x l1 rl1 rv1 p1 => ?_⟩
  refine ⟨ρ1, σs, S1, rl1, re.mono l1, PostR.bind (R := RV G) (r := me σs S1) p1 fun ρ2 H2 S2 y z l2 rl2 rv2 p2 => ?_⟩
  unfold dgetL at p2
  cases q1 : dicL S2 d with
  | none => simp only [q1] at p2; exact p2.elim
  | some kvs =>
    cases q2 : keyD y with
    | none => simp only [q1, q2] at p2; exact p2.elim
    | some k =>
      simp only [q1, q2] at p2
      obtain ⟨a, kus, rfl, h1, h2⟩ := dicL_rel rl2 (rv1.mono l2) q1
      cases q3 : valD kvs y with
      | none => simp only [q3] at p2; exact p2.elim
      | some v =>
        simp only [q3] at p2
        obtain ⟨u, e1, e2⟩ := (valD_rel q2 h2).1 v q3
        exact ⟨a, u, rfl, .inl ⟨kus, k, h1, key_rel q2 rv2, e1.symm⟩, post_ok p2 rl2 e2⟩
end
end L2.Mi

set_option Elab.async false
set_option linter.all false
set_option maxRecDepth 100000
set_option maxHeartbeats 4000000
namespace L2.Mi
open PySem PySem.Spec PyProof.Rows
section
variable {G : Gx} {X : Cx} {W : WX} {e z : Expr} {ml mz : ME} {p pos kpos : Pos}
def isF (neg : Bool) : D → D → Store → Res D := fun x y S => match x, y with
  | .bl a, .bl b => .ok (.bl (xor neg (decide (a = b)))) S
  | .non, .non => .ok (.bl (xor neg true)) S
  | _, .non => .ok (.bl (xor neg false)) S
  | _, _ => .bad
theorem rv_non {ρ : Wd} {H : Hp} {d : D} {x : V} (h : RV G ρ H d x) : x = .non ↔ d = .non := by
  cases h <;> simp
theorem ops_is : OpS G X W (compareOp .Is) (isF false) := fun pins s σ H x y v u Q ρ S d1 d2 I rx ry rl r1 r2 p => by
  unfold isF at p
  split at p
  · rename_i a b
    cases r1
    cases r2
    exact op_isBl pins s σ H _ _ v u Q I rx ry ⟨a, b, rfl, rfl, by simpa using post_ok p rl (.bl _)⟩
  · cases r1
    cases r2
    exact op_isN pins s σ H _ _ v u Q I rx ry ⟨rfl, by simpa using post_ok p rl (.bl _)⟩
  · rename_i h1
    cases r2
    have n1 : x ≠ .non := fun z => h1 ((rv_non r1).mp z)
    exact op_isN pins s σ H _ _ v u Q I rx ry ⟨rfl, by simpa [n1] using post_ok p rl (.bl _)⟩
  · exact p.elim
end
end L2.Mi

set_option Elab.async false
set_option linter.all false
set_option maxRecDepth 100000
set_option maxHeartbeats 4000000
namespace L2.Mi
open PySem PySem.Spec PyProof.Rows
section
variable {G : Gx} {X : Cx} {W : WX}
theorem Mv.show {v h : List Addr} {a : Addr} {H : Hp} : Mv G ⟨v, a :: h⟩ H ⟨v ++ [a], h⟩ H := by
  have nn : ∀ b, (⟨v, a :: h⟩ : Wd).no b → (⟨v ++ [a], h⟩ : Wd).no b := fun b n => by
    have n2 : b ≠ a ∧ b ∉ h := by simpa [Wd.no] using n.2
    exact ⟨by simp [n.1, n2.1], n2.2⟩
  exact ⟨fun i b e => pre_get (List.prefix_append _ _) e, fun _ _ _ q => q, fun b _ n q => ⟨nn b n, q⟩, fun b _ n _ q => ⟨nn b n, q⟩⟩
theorem RKs.mono {ρ ρ' : Wd} {H H' : Hp} (l : Le G ρ H ρ' H') {ds : List (D × D)} {vs : List (Key × V)} (r : RKs G ρ H ds vs) : RKs G ρ' H' ds vs := r.move l.mv
end
end L2.Mi

set_option Elab.async false
set_option linter.all false
set_option maxRecDepth 100000
set_option maxHeartbeats 4000000
namespace L2.Mi
open PySem PySem.Spec PyProof.Rows
section
variable {G : Gx} {X : Cx} {W : WX}
theorem ss_setLc {i : Nat} {y : Str} {py : Pos} {elt tg iter : Expr} {ifs : List Expr} {scope : Scope} {own : List (Str × Nat)} {pos spos : Pos} {mi : MI} {t : TgN} {mt : MT} {me : ME} (n : Nat) (cc : Cc G X W) (hy : X.N[i]? = some y) (hyl : X.env.scope.names.lookup y = some .local) (hk : X.env.scope.kind = .function) (hl : (py.line == pos.line) = true)
    (ha : (scope.names.any fun (n, k) => n == y && (k == .local || k == .cell)) = false) (hi : SI G X W tg iter mi) (ok : BlkOk X.N X.env.scope scope own) (hv : ∀ i ∈ t.slots, i ∈ own.map (·.2))
    (hg : ∀ (s : Shared) (H : Hp) (C : Addr) (cl : List (Str × Addr)) (fp : List Addr), Cc G (X.blk s H scope (compEnvC scope cl C X.env) fp) W0 → PG (X.blk s H scope (compEnvC scope cl C X.env) fp) tg (t.tg X.K))
    (ht : ∀ (s : Shared) (H : Hp) (C : Addr) (cl : List (Str × Addr)) (fp : List Addr), Cc G (X.blk s H scope (compEnvC scope cl C X.env) fp) W0 → PTs (X.blk s H scope (compEnvC scope cl C X.env) fp) ifs (tmt G W0 mt))
    (he : ∀ (s : Shared) (H : Hp) (C : Addr) (cl : List (Str × Addr)) (fp : List Addr), Cc G (X.blk s H scope (compEnvC scope cl C X.env) fp) W0 → SE G (X.blk s H scope (compEnvC scope cl C X.env) fp) W0 elt me) (hs : ∀ x, foldedSetIterable iter X.env x = pure x := by intro _; rfl) :
    SS G X W (.Assign [.Name y py] (.ListComp elt [⟨tg, iter, ifs, 0⟩] scope pos) spos) (sSet i (eLcV mi t mt me (own.map (·.2)) n)) := by
  refine ss_of (ps_setLc cc.calm cc.nd hy hyl (sw_true hk hyl hl ha) hi ok (fun s H C cl fp => hg s H C cl fp (cc_blk cc)) (fun s H C cl fp => ht s H C cl fp (cc_blk cc)) (fun s H C cl fp => he s H C cl fp (cc_blk cc)) hs) fun σ H Dn ρ σs S rl re p => ?_
  have p0 : Post G ρ H (eLcV mi t mt me (own.map (·.2)) n σs S) (fun x H1 => L2.gName i x σ H1 Dn.nx) (EW W σ) := do_go re p fun ρ1 H1 S1 d v l1 rl1 rv1 p1 => p1 ρ1 H1 _ Le.refl rl1 ((re.mono l1).set i rv1)
  exact lc_read hv (fun ds S2 => .ok (.lv ds) S2) rl re (fun ρ' H' S' ds xs Dl rl' h1 h2 h3 p' => post_ok (S := S') p' rl' (.lv h2 h1 h3)) p0
end
def sLock (i : Nat) (m : MS) : MS := fun σ S => match σ[i]? with
  | some (some (.ref n)) => (match S.get n with
    | some (.dic t kvs) => (match m σ (S.set n (.lck (.dic t kvs))) with
      | .nx σ1 S1 => .nx σ1 (S1.set n (.dic t kvs))
      | .rt d S1 => .rt d (S1.set n (.dic t kvs))
      | _ => .bad)
    | _ => .bad)
  | _ => .bad
theorem unlock_mv {G : Gx} {ρ1 : Wd} {H1 : Hp} {n : Nat} {a : Addr} {u : HO} {od : Obj} (hi1 : ρ1.v[n]? = some a) (k1 : H1 a = some (.frz od u)) (it : ¬ IsT (.frz od u)) : Mv G ρ1 H1 ρ1 (L2.upd H1 a u) := by
  refine ⟨fun _ _ h => h, fun b x t h => ?_, fun b xs nn h => ⟨nn, ?_⟩, fun b x nn k h => ⟨nn, ?_⟩⟩
  · rw [upd_ne (show b ≠ a from fun z => by rw [z, k1] at h; cases h; exact it t)]
    exact h
  · rw [upd_ne (show b ≠ a from fun z => nn.1 (by rw [z]; exact List.mem_of_getElem? hi1))]
    exact h
  · have ne : b ≠ a := fun z => nn.1 (by rw [z]; exact List.mem_of_getElem? hi1)
    rcases h with h | ⟨q, h⟩
    · exact .inl (by rw [upd_ne ne]; exact h)
    · exact .inr ⟨q, by rw [upd_ne ne]; exact h⟩
end L2.Mi

set_option Elab.async false
set_option linter.all false
set_option maxRecDepth 100000
set_option maxHeartbeats 1000000
namespace L2.Mi
open PySem
def Res.sat {α : Type} (r : Res α) (Q : α → Store → Prop) (E : Xn → Store → Prop) : Prop := match r with
  | .ok a S => Q a S
  | .exc x S => E x S
  | .bad => False
/-- what is wanted behind a statement: next, return, exception, break, continue -/
structure Wt where
  n : En → Store → Prop
  r : D → Store → Prop
  e : Xn → Store → Prop := fun _ _ => False
  b : En → Store → Prop := fun _ _ => False
  c : En → Store → Prop := fun _ _ => False
def RS.sat (r : RS) (w : Wt) : Prop := match r with
  | .nx σ S => w.n σ S
  | .rt d S => w.r d S
  | .exc x _ S => w.e x S
  | .bk σ S => w.b σ S
  | .ct σ S => w.c σ S
  | .bad => False
abbrev NoX : Xn → Store → Prop := fun _ _ => False
section
variable {α β : Type} {S S1 : Store} {Q Q' : α → Store → Prop} {E E' : Xn → Store → Prop} {x : Xn} {a : α}
@[simp] theorem sat_ok : (Res.ok a S).sat Q E = Q a S := (rfl)
@[simp] theorem sat_bind {r : Res β} {f : β → Store → Res α} : (r.bind f).sat Q E = r.sat (fun b S1 => (f b S1).sat Q E) E := by cases r <;> rfl
theorem Res.sat.imp {r : Res α} (h : r.sat Q E) (h1 : ∀ a S, Q a S → Q' a S) (h2 : ∀ x S, E x S → E' x S) : r.sat Q' E' := by
  cases r with
  | ok a S => exact h1 _ _ h
  | exc x S => exact h2 _ _ h
  | bad => exact h
theorem Res.sat.mono {r : Res α} (h : r.sat Q E) (h1 : ∀ a S, Q a S → Q' a S) : r.sat Q' E := h.imp h1 fun _ _ h => h
theorem Res.sat.noX {r : Res α} (h : r.sat Q NoX) (h1 : ∀ a S, Q a S → Q' a S) : r.sat Q' E := h.imp h1 fun _ _ h => h.elim
/-- an equation is as good -/
theorem sat_eq {r : Res α} (e : r = .ok a S) (h : Q a S) : r.sat Q E := by rw [e]; exact h
theorem sat_ex {r : Res α} (h : r.sat Q NoX) : ∃ a S, r = .ok a S ∧ Q a S := by
  cases r with
  | ok a S => exact ⟨a, S, rfl, h⟩
  | exc x S => exact h.elim
  | bad => exact h.elim
end
section
variable {σ σ' : En} {S S1 : Store} {w w' : Wt} {m a b : ME} {t : MT} {k l : MS} {d : D} {x : Xn} {i : Nat}
@[simp] theorem sat_nx : (RS.nx σ S).sat w = w.n σ S := (rfl)
theorem RS.sat.imp {r : RS} (h : r.sat w) (h1 : ∀ σ S, w.n σ S → w'.n σ S) (h2 : ∀ d S, w.r d S → w'.r d S) (h3 : ∀ x S, w.e x S → w'.e x S) (h4 : ∀ σ S, w.b σ S → w'.b σ S) (h5 : ∀ σ S, w.c σ S → w'.c σ S) : r.sat w' := by
  cases r with
  | nx σ S => exact h1 _ _ h
  | rt d S => exact h2 _ _ h
  | exc x σ S => exact h3 _ _ h
  | bk σ S => exact h4 _ _ h
  | ct σ S => exact h5 _ _ h
  | bad => exact h
@[simp] theorem sat_seq : (sSeq k l σ S).sat w = (k σ S).sat { w with n := fun σ1 S1 => (l σ1 S1).sat w } := by
  unfold sSeq
  cases k σ S <;> rfl
@[simp] theorem sat_ret : (sRet m σ S).sat w = (m σ S).sat w.r w.e := by
  unfold sRet
  cases m σ S <;> rfl
@[simp] theorem sat_drop : (sDrop m σ S).sat w = (m σ S).sat (fun _ S1 => w.n σ S1) w.e := by
  unfold sDrop
  cases m σ S <;> rfl
@[simp] theorem sat_set : (sSet i m σ S).sat w = (m σ S).sat (fun d S1 => w.n (σ.set i (some d)) S1) w.e := by
  unfold sSet sAsg gName
  cases m σ S <;> rfl
@[simp] theorem sat_if : (sIf t k l σ S).sat w = (t σ S).sat (fun c S1 => if c then (k σ S1).sat w else (l σ S1).sat w) w.e := by
  unfold sIf
  cases t σ S with
  | ok c S1 => cases c <;> rfl
  | _ => rfl
@[simp] theorem sat_next : (sNext σ S).sat w = w.n σ S := (rfl)
theorem sat_par {i j : Nat} : (sPar i j a b σ S).sat w = (a σ S).sat (fun x S1 => (b σ S1).sat (fun y S2 => w.n ((σ.set i (some x)).set j (some y)) S2) w.e) w.e := by
  unfold sPar
  simp only [aList_cons, aList_nil]
  cases a σ S with
  | ok x S1 =>
    simp only [bind_ok', sat_ok]
    cases b σ S1 <;> rfl
  | _ => rfl
theorem sat_raise {c f : Nat} : (sRaise c f m σ S).sat w = (m σ S).sat (fun d S1 => w.e ⟨c, [(f, d)]⟩ S1) w.e := by
  unfold sRaise
  cases m σ S <;> rfl
theorem sat_asg {g : MG} : (sAsg m g σ S).sat w = (m σ S).sat (fun d S1 => (g d σ S1).sat (fun σ2 S2 => w.n σ2 S2) NoX) w.e := by
  unfold sAsg
  cases m σ S with
  | ok d S1 =>
    simp only [sat_ok]
    cases g d σ S1 <;> rfl
  | _ => rfl
/-- the end of a def -/
theorem sat_fin {r : RS} {Q : D → Store → Prop} {E : Xn → Store → Prop} (h : r.sat ⟨fun _ S => Q .non S, Q, E, fun _ _ => False, fun _ _ => False⟩) : (fin r).sat Q E := by
  cases r with
  | bk σ S => exact h.elim
  | ct σ S => exact h.elim
  | _ => exact h
/-- turn by turn over items; I: what stands ahead of each, by what is left -/
theorem forL_sat {g : MG} {b : MS} (I : List D → En → Store → Prop) {w : Wt} (step : ∀ d ds σ S, I (d :: ds) σ S → (g d σ S).sat (fun σ1 S1 => (b σ1 S1).sat ⟨I ds, w.r, w.e, w.n, I ds⟩) NoX) (done : ∀ σ S, I [] σ S → w.n σ S) :
    ∀ (ds : List D) (σ : En) (S : Store), I ds σ S → (forL g b ds σ S).sat w
  | [], σ, S, h => done σ S h
  | d :: ds, σ, S, h => by
    have z := step d ds σ S h
    rw [forL_cons]
    cases q : g d σ S with
    | ok σ1 S1 =>
      rw [q] at z
      simp only
      have z2 : (b σ1 S1).sat ⟨I ds, w.r, w.e, w.n, I ds⟩ := z
      cases q2 : b σ1 S1 with
      | nx σ2 S2 => rw [q2] at z2; exact forL_sat I step done ds σ2 S2 z2
      | ct σ2 S2 => rw [q2] at z2; exact forL_sat I step done ds σ2 S2 z2
      | bk σ2 S2 => rw [q2] at z2; exact z2
      | rt d S2 => rw [q2] at z2; exact z2
      | exc x σ2 S2 => rw [q2] at z2; exact z2
      | bad => rw [q2] at z2; exact z2
    | exc x S1 => rw [q] at z; exact z.elim
    | bad => rw [q] at z; exact z.elim
/-- a text's signs -/
def chars (l : List Nat) : List D := l.map fun c => .str [c]
theorem chars_get {l : List Nat} {k : Nat} : (l[k]?).map (fun c => D.str [c]) = (chars l)[k]? := by
  unfold chars
  rw [List.getElem?_map]
theorem src_txt {m : ME} {σ : En} {S S1 : Store} {l : List Nat} (ha : m σ S = .ok (.str l) S1) : ∃ src, iTxt m σ S = .ok src S1 ∧ ∀ k S, src k S = some (chars l)[k]? := by
  unfold iTxt
  rw [ha, bind_ok']
  exact ⟨_, rfl, fun k S => by rw [← chars_get]⟩
/-- what is walked in a for or a comprehension -/
def Walk (mi : MI) (σ : En) (S : Store) (ds : List D) (S1 : Store) : Prop := ∃ src, mi σ S = .ok src S1 ∧ ∀ k S, src k S = some ds[k]?
theorem walk_seq {m : ME} {σ : En} {S S1 : Store} {d : D} {ds : List D} (ha : m σ S = .ok d S1) (hd : itsD d = some ds) : Walk (iSeq m) σ S ds S1 := src_its ha hd
theorem walk_txt {m : ME} {σ : En} {S S1 : Store} {l : List Nat} (ha : m σ S = .ok (.str l) S1) : Walk (iTxt m) σ S (chars l) S1 := src_txt ha
theorem walk_r1 {a : ME} {σ : En} {S S1 : Store} {j : Int} (ha : a σ S = .ok (.int j) S1) (h0 : -1000000 < j) (h1 : j < 1000000) : Walk (iRange1 a) σ S (ups 0 j.toNat) S1 := src_r1 ha h0 h1
theorem walk_or1 {a b : MI} {σ : En} {S S1 : Store} {ds : List D} (h : Walk a σ S ds S1) : Walk (iOr a b) σ S ds S1 := by
  obtain ⟨src, e, h⟩ := h
  exact ⟨src, by unfold iOr orB; rw [e], h⟩
theorem walk_or2 {a b : MI} {σ : En} {S S1 : Store} {ds : List D} (n : a σ S = .bad) (h : Walk b σ S ds S1) : Walk (iOr a b) σ S ds S1 := by
  obtain ⟨src, e, h⟩ := h
  exact ⟨src, by unfold iOr orB; rw [n, e], h⟩
theorem seq_no {m : ME} {σ : En} {S S1 : Store} {l : List Nat} (ha : m σ S = .ok (.str l) S1) : iSeq m σ S = .bad := by
  unfold iSeq
  rw [ha, bind_ok']
  rfl
/-- over a text where either may stand -/
theorem walk_text {m : ME} {σ : En} {S S1 : Store} {l : List Nat} (ha : m σ S = .ok (.str l) S1) : Walk (iOr (iSeq m) (iTxt m)) σ S (chars l) S1 := walk_or2 (seq_no ha) (walk_txt ha)
theorem walk_list {m n : ME} {σ : En} {S S1 : Store} {d : D} {ds : List D} (ha : m σ S = .ok d S1) (hd : itsD d = some ds) : Walk (iOr (iSeq m) (iTxt n)) σ S ds S1 := walk_or1 (walk_seq ha hd)
theorem for_sat {mi : MI} {g : MG} {b : MS} {n : Nat} {ds : List D} (I : List D → En → Store → Prop) {w : Wt} (hw : Walk mi σ S ds S1) (hn : ds.length < n) (h : I ds σ S1)
    (step : ∀ d ds σ S, I (d :: ds) σ S → (g d σ S).sat (fun σ1 S1 => (b σ1 S1).sat ⟨I ds, w.r, w.e, w.n, I ds⟩) NoX) (done : ∀ σ S, I [] σ S → w.n σ S) : (sFor mi g b n σ S).sat w := by
  obtain ⟨src, e, hs⟩ := hw
  unfold sFor
  rw [e]
  simp only
  rw [forGo_list hs n 0 σ S1 (by omega) (by omega)]
  exact forL_sat I step done ds σ S1 h
/-- while: I by what is left of turns -/
theorem while_sat {t : MT} {b : MS} {w : Wt} (I : Nat → En → Store → Prop) (step : ∀ k σ S, I k σ S → (t σ S).sat (fun c S1 => if c then (b σ S1).sat ⟨fun σ2 S2 => ∃ j, j < k ∧ I j σ2 S2, w.r, w.e, w.n, fun σ2 S2 => ∃ j, j < k ∧ I j σ2 S2⟩ else w.n σ S1) w.e) :
    ∀ (n k : Nat) (σ : En) (S : Store), k < n → I k σ S → (sWhile t b n σ S).sat w
  | 0, k, σ, S, h, _ => absurd h (by omega)
  | n + 1, k, σ, S, hn, h => by
    have z := step k σ S h
    unfold sWhile
    cases q : t σ S with
    | ok c S1 =>
      rw [q] at z
      cases c with
      | false => exact z
      | true =>
        have z2 : (b σ S1).sat ⟨fun σ2 S2 => ∃ j, j < k ∧ I j σ2 S2, w.r, w.e, w.n, fun σ2 S2 => ∃ j, j < k ∧ I j σ2 S2⟩ := z
        simp only
        cases q2 : b σ S1 with
        | nx σ2 S2 => rw [q2] at z2; obtain ⟨j, hj, hi⟩ := z2; exact while_sat I step n j σ2 S2 (by omega) hi
        | ct σ2 S2 => rw [q2] at z2; obtain ⟨j, hj, hi⟩ := z2; exact while_sat I step n j σ2 S2 (by omega) hi
        | bk σ2 S2 => rw [q2] at z2; exact z2
        | rt d S2 => rw [q2] at z2; exact z2
        | exc x σ2 S2 => rw [q2] at z2; exact z2
        | bad => rw [q2] at z2; exact z2
    | exc x S1 => rw [q] at z; exact z
    | bad => rw [q] at z; exact z
/-- a comprehension; I: by what is left, what is found -/
theorem lcGo_sat {src : Src} {t : TgN} {mt : MT} {me : ME} {σ : En} {ds : List D} (h : ∀ k S, src k S = some ds[k]?) (I : List D → List D → Store → Prop)
    (step : ∀ d r acc S, I (d :: r) acc S → ∃ σ2, t.put d σ = some σ2 ∧ (mt σ2 S).sat (fun c S1 => if c then (me σ2 S1).sat (fun y S2 => acc.length < lim ∧ I r (acc ++ [y]) S2) NoX else I r acc S1) NoX) :
    ∀ (n k : Nat) (acc : List D) (S : Store), ds.length < n + k → k ≤ ds.length → I (ds.drop k) acc S → (lcGo src t mt me σ n k acc S).sat (fun acc2 S2 => I [] acc2 S2) NoX
  | 0, k, acc, S, h1, h2, _ => absurd h1 (by omega)
  | n + 1, k, acc, S, h1, h2, hi => by
    unfold lcGo
    rw [h k S]
    by_cases hk : k < ds.length
    · rw [List.getElem?_eq_getElem hk]
      rw [List.drop_eq_getElem_cons hk] at hi
      obtain ⟨σ2, e1, z⟩ := step _ _ _ _ hi
      simp only [e1]
      cases q : mt σ2 S with
      | ok c S1 =>
        rw [q] at z
        cases c with
        | false => exact lcGo_sat h I step n (k + 1) acc S1 (by omega) (by omega) z
        | true =>
          have z2 : (me σ2 S1).sat (fun y S2 => acc.length < lim ∧ I (ds.drop (k + 1)) (acc ++ [y]) S2) NoX := z
          simp only
          cases q2 : me σ2 S1 with
          | ok y S2 =>
            rw [q2] at z2
            obtain ⟨z3, z4⟩ := z2
            simp only
            rw [if_pos z3]
            exact lcGo_sat h I step n (k + 1) _ S2 (by omega) (by omega) z4
          | exc x S2 => rw [q2] at z2; exact z2.elim
          | bad => rw [q2] at z2; exact z2.elim
      | exc x S1 => rw [q] at z; exact z.elim
      | bad => rw [q] at z; exact z.elim
    · rw [List.getElem?_eq_none (by omega)]
      rw [List.drop_eq_nil_of_le (by omega)] at hi
      exact hi
theorem lc_sat {mi : MI} {t : TgN} {mt : MT} {me : ME} {vs : List Nat} {n : Nat} {ds : List D} {Q : D → Store → Prop} {E : Xn → Store → Prop} (I : List D → List D → Store → Prop) (hw : Walk mi σ S ds S1) (hn : ds.length < n) (h : I ds [] S1)
    (step : ∀ d r acc S, I (d :: r) acc S → ∃ σ2, t.put d (wipeD σ vs) = some σ2 ∧ (mt σ2 S).sat (fun c S1 => if c then (me σ2 S1).sat (fun y S2 => acc.length < lim ∧ I r (acc ++ [y]) S2) NoX else I r acc S1) NoX)
    (done : ∀ acc S, I [] acc S → Q (.lv acc) S) : (eLcV mi t mt me vs n σ S).sat Q E := by
  obtain ⟨src, e, hs⟩ := hw
  unfold eLcV
  rw [e, bind_ok', sat_bind]
  exact (lcGo_sat hs I step n 0 [] S1 (by omega) (by omega) h).noX fun acc S2 z => done acc S2 z
end
end L2.Mi

set_option Elab.async false
set_option linter.all false
set_option maxRecDepth 100000
set_option maxHeartbeats 1000000
namespace L2.Mi
open PySem
def LETS : List Nat := [97, 98, 99, 100, 101, 102, 103, 104, 105, 106, 107, 108, 109, 110, 111, 112, 113, 114, 115, 116, 117, 118, 119, 120, 121, 122]
def DIGS : List Nat := [48, 49, 50, 51, 52, 53, 54, 55, 56, 57]
def LD (c : Nat) : Bool := decide (c ∈ LETS) || decide (c ∈ DIGS)
abbrev MARK : List Nat := [109, 97, 114, 107]
abbrev NAME : List Nat := [110, 97, 109, 101]
abbrev BADW : List Nat := [98, 97, 100]
abbrev NUMB : List Nat := [110, 117, 109, 98, 101, 114]
abbrev ENDW : List Nat := [101, 110, 100]
theorem lim_big : 999999 ≤ lim := by unfold lim; decide
theorem itemF_str {S : Store} {l : List Nat} {k : Nat} {c : Nat} (hl : l.length ≤ 900000) (h : l[k]? = some c) : itemF (.str l) (.int (k : Int)) S = .ok (.str [c]) S := by
  have e : itemF (.str l) (.int (k : Int)) S = if l.length ≤ lim then (match L2.atI l (k : Int) with | some c => .ok (.str [c]) S | none => .bad) else .bad := (rfl)
  rw [e, if_pos (by have := lim_big; omega), atI_nat h]
theorem lenF_str {S : Store} {l : List Nat} (hl : l.length ≤ 900000) : lenF [.str l] S = .ok (.int l.length) S := by
  unfold lenF
  simp only
  rw [if_pos (by have := lim_big; omega)]
theorem inF_chr {S : Store} {c : Nat} {z : List Nat} {neg : Bool} : inF neg (.str [c]) (.str z) S = .ok (.bl (if neg then !decide (c ∈ z) else decide (c ∈ z))) S := (rfl)
theorem strs_flat : ∀ ks : List (List Nat), (ks.map D.str).all flatD = true
  | [] => rfl
  | k :: ks => by
    rw [List.map_cons, List.all_cons, strs_flat ks]
    rfl
theorem any_eqD (w : List Nat) : ∀ ks : List (List Nat), ((ks.map D.str).any fun z => eqD z (.str w)) = ks.any (· == w)
  | [] => rfl
  | k :: ks => by
    rw [List.map_cons, List.any_cons, List.any_cons, any_eqD w ks]
    rfl
theorem inF_strs {S : Store} {w : List Nat} {ks : List (List Nat)} {d : D} {neg : Bool} (h : seqD S d = some (ks.map D.str)) : inF neg (.str w) d S = .ok (.bl (if neg then !(ks.any (· == w)) else ks.any (· == w))) S := by
  unfold inF
  simp only [h, strs_flat, flatD, Bool.and_self, if_true, any_eqD]
/-- a text of true signs -/
def Txt (R : List Nat) : Prop := ∀ c ∈ R, c < 0x110000
theorem Txt.ok {R : List Nat} (h : Txt R) : PyData.strOk ⟨R.toArray⟩ = true := by
  unfold PyData.strOk
  simp only [List.all_toArray, List.all_eq_true, decide_eq_true_eq]
  exact h
theorem Txt.app {a b : List Nat} (h1 : Txt a) (h2 : Txt b) : Txt (a ++ b) := fun c hc => by
  rcases List.mem_append.mp hc with h | h
  · exact h1 c h
  · exact h2 c h
theorem Txt.sub {a b : List Nat} (h : Txt b) (hs : ∀ c ∈ a, c ∈ b) : Txt a := fun c hc => h c (hs c hc)
theorem str_beq {a b : List Nat} : ((⟨a.toArray⟩ : Str) == ⟨b.toArray⟩) = (a == b) := by
  by_cases h : a = b
  · subst h; simp
  · have n1 : (a == b) = false := beq_eq_false_iff_ne.mpr h
    rw [n1]
    refine beq_eq_false_iff_ne.mpr fun z => h ?_
    have z2 := congrArg (fun s : Str => s.cps.toList) z
    simpa using z2
theorem eqF_str {own : Op2} {a b : List Nat} {S : Store} (ha : Txt a) (hb : Txt b) : eqF own (.str a) (.str b) S = .ok (.bl (a == b)) S := by
  simp [eqF, dat, SeqAt.shaped, PyData.canLay0, PyData.depth, PyData.eqv, str_beq, ha.ok, hb.ok]
theorem neF_str {own : Op2} {a b : List Nat} {S : Store} (ha : Txt a) (hb : Txt b) : neF own (.str a) (.str b) S = .ok (.bl (!(a == b))) S := by
  simp [neF, dat, SeqAt.shaped, PyData.canLay0, PyData.depth, PyData.eqv, str_beq, ha.ok, hb.ok]
theorem cutD_nat {α : Type} {l : List α} {i j : Nat} (hij : i ≤ j) (hj : j ≤ l.length) : cutD l (some (i : Int)) (some (j : Int)) = (l.drop i).take (j - i) := by
  unfold cutD
  rw [HT.sIx_nat, HT.sIx_nat, Nat.min_eq_left hj, Nat.min_eq_left (by omega)]
theorem sliceF_str {S : Store} {l : List Nat} {i j : Nat} (hl : l.length ≤ 900000) (hij : i ≤ j) (hj : j ≤ l.length) : sliceF (.str l) (some (i : Int)) (some (j : Int)) S = .ok (.str ((l.drop i).take (j - i))) S := by
  unfold sliceF
  simp only
  rw [if_pos (by have := lim_big; omega), cutD_nat hij hj]
theorem appendF_ev {S : Store} {i : Nat} {ds : List D} {y : D} (h : S.get i = some (.lst ds)) (hl : ds.length < 900000) : appendF (.ref i) [y] S = .ok .non (S.set i (.lst (ds ++ [y]))) := by
  unfold appendF
  simp only [h]
  rw [if_pos (by have := lim_big; omega)]
theorem isLst_ev {S : Store} {i : Nat} {ds : List D} (h : S.get i = some (.lst ds)) : isLst (.ref i) S = true := by
  unfold isLst listAt
  simp only [h]
  rfl
@[simp] theorem eBm_ev {ck : D → Store → Bool} {f : D → List D → Store → Res D} {mo : ME} {ma : MA} {σ : En} {S : Store} : eBm ck f mo ma σ S = (mo σ S).bind fun o S1 => if ck o S1 then (ma σ S1).bind fun xs S2 => f o xs S2 else .bad := (rfl)
theorem Store.set_set {S : Store} {i : Nat} {o o' : Ob} : (S.set i o).set i o' = S.set i o' := by
  unfold Store.set
  simp
theorem Store.get_set_same' {S : Store} {i : Nat} {o o' : Ob} (h : S.get i = some o') : (S.set i o).get i = some o := Store.get_set_same (Store.get_lt h)
/-- len of texts -/
def LenOk (lx : FN) : Prop := ∀ (l : List Nat) (S : Store), l.length ≤ 900000 → lx [.str l] S = .ok (.int l.length) S
theorem lenF_ok : LenOk lenF := fun l S h => lenF_str h
def kindM (lx : FN) (oE : Op2) : MS :=
    sSeq (sIf (tOf (eBin (inF false) (eVar 0) (eVar 1))) (sRet (eC (.str MARK))) (sNext))
    (sSeq (sIf (tOf (eBin (inF false) (eBin itemF (eVar 0) (eC (.int 0))) (eC (.str LETS)))) (sRet (eC (.str NAME))) (sNext))
    (sSeq (sFor (iOr (iSeq (eVar 0)) (iTxt (eVar 0))) (gName 2) (sIf (tOf (eBin (inF true) (eVar 2) (eC (.str DIGS)))) (sRet (eC (.str BADW))) (sNext)) 100000)
    (sSeq (sIf (tAnd (tOf (eBin oE (eBin itemF (eVar 0) (eC (.int 0))) (eC (.str [48])))) (tOf (eBin gtI (eFn lx (aList [eVar 0])) (eC (.int 1))))) (sRet (eC (.str BADW))) (sNext))
    (sRet (eC (.str NUMB))))))
def allD (w : List Nat) : Bool := w.all fun c => decide (c ∈ DIGS)
def kindS (ks : List (List Nat)) (w : List Nat) : List Nat := if ks.any (· == w) then MARK else match w with
  | [] => BADW
  | c :: r => if decide (c ∈ LETS) then NAME else if allD (c :: r) then (if c == 48 && !r.isEmpty then BADW else NUMB) else BADW
theorem rt_of {r : RS} {d : D} {S : Store} (h : r.sat ⟨fun _ _ => False, fun d2 S2 => d2 = d ∧ S2 = S, fun _ _ => False, fun _ _ => False, fun _ _ => False⟩) : r = .rt d S := by
  cases r with
  | rt d2 S2 => obtain ⟨h1, h2⟩ := h; rw [h1, h2]
  | _ => exact h.elim
theorem chars_cons {l : List Nat} {d : D} {ds : List D} (h : d :: ds = chars l) : ∃ c r, l = c :: r ∧ d = .str [c] ∧ ds = chars r := by
  cases l with
  | nil => cases h
  | cons c r =>
    unfold chars at h
    rw [List.map_cons] at h
    cases h
    exact ⟨c, r, rfl, rfl, rfl⟩
theorem chars_nil {l : List Nat} (h : [] = chars l) : l = [] := by
  cases l with
  | nil => rfl
  | cons c r => cases h
theorem chars_len {l : List Nat} : (chars l).length = l.length := by unfold chars; simp
def endM (lx : FN) : MS :=
    sSeq (sSet 2 (eVar 1))
    (sSeq (sWhile (tAnd (tOf (eBin ltI (eVar 2) (eFn lx (aList [eVar 0])))) (tOr (tOf (eBin (inF false) (eBin itemF (eVar 0) (eVar 2)) (eC (.str LETS)))) (tOf (eBin (inF false) (eBin itemF (eVar 0) (eVar 2)) (eC (.str DIGS)))))) (sAug 2 addI (eC (.int 1))) 100000)
    (sRet (eVar 2)))
theorem end_ok {lx : FN} (hx : LenOk lx) {l r rest : List Nat} {a : Nat} {S : Store} (hl : l.length ≤ 90000) (hd : l.drop a = r ++ rest) (ha : a ≤ l.length) (hr : ∀ c ∈ r, LD c = true) (hs : ∀ c t, rest = c :: t → LD c = false) :
    endM lx [some (.str l), some (.int (a : Int)), none] S = .rt (.int ((a + r.length : Nat) : Int)) S := by
  refine rt_of ?_
  unfold endM
  simp only [sat_seq, sat_set, eVar_0, eVar_s, sat_ok, List.set_cons_succ, List.set_cons_zero]
  refine while_sat (fun k σ S2 => S2 = S ∧ ∃ p q, r = p ++ q ∧ k = q.length ∧ σ = [some (.str l), some (.int (a : Int)), some (.int ((a + p.length : Nat) : Int))]) ?_ 100000 r.length _ _ ?_ ⟨rfl, [], r, rfl, rfl, rfl⟩
  · rintro k σ S2 ⟨rfl, p, q, rfl, rfl, rfl⟩
    have hg : ∀ j : Nat, l[a + j]? = (p ++ q ++ rest)[j]? := fun j => by rw [← hd, List.getElem?_drop]
    have hgp : l[a + p.length]? = (q ++ rest)[0]? := by
      rw [hg, List.append_assoc, List.getElem?_append_right (Nat.le_refl _), Nat.sub_self]
    have hlen : l.length = a + p.length + q.length + rest.length := by
      have e := congrArg List.length hd
      rw [List.length_drop] at e
      simp at e
      omega
    simp only [tAnd_ev, tOf_ev, eBin_ev, eVar_0, eVar_s, bind_ok', eFn_ev, aList_cons, aList_nil, hx _ _ (show l.length ≤ 900000 by omega), ltI_ev, sat_bind, sat_ok]
    by_cases hlt : a + p.length < l.length
    · simp only [decide_eq_true (show ((a + p.length : Nat) : Int) < (l.length : Int) by omega), if_true]
      obtain ⟨c, hc⟩ : ∃ c, (q ++ rest)[0]? = some c := by
        cases q with
        | nil =>
          cases rest with
          | nil => simp at hlen; omega
          | cons c t => exact ⟨c, rfl⟩
        | cons c t => exact ⟨c, rfl⟩
      have hi : itemF (.str l) (.int ((a + p.length : Nat) : Int)) S2 = .ok (.str [c]) S2 := itemF_str (by omega) (hgp.trans hc)
      simp only [tOr_ev, tOf_ev, eBin_ev, eVar_0, eVar_s, bind_ok', hi, eC_ev, inF_chr, sat_bind, sat_ok, Bool.false_eq_true, if_false]
      cases q with
      | nil =>
        cases rest with
        | nil => cases hc
        | cons x t =>
          simp only [List.nil_append, List.getElem?_cons_zero, Option.some.injEq] at hc
          subst hc
          have z := hs x t rfl
          unfold LD at z
          simp only [Bool.or_eq_false_iff] at z
          simp only [z.1, z.2, Bool.false_eq_true, if_false, sat_ok, sat_ret, eVar_s, eVar_0]
          simp
      | cons x t =>
        simp only [List.cons_append, List.getElem?_cons_zero, Option.some.injEq] at hc
        subst hc
        have z := hr x (by simp)
        unfold LD at z
        have aug : sAug 2 addI (eC (.int 1)) [some (.str l), some (.int (a : Int)), some (.int ((a + p.length : Nat) : Int))] S2 = .nx [some (.str l), some (.int (a : Int)), some (.int (((a + p.length : Nat) : Int) + 1))] S2 := rfl
        have goal : (sAug 2 addI (eC (.int 1)) [some (.str l), some (.int (a : Int)), some (.int ((a + p.length : Nat) : Int))] S2).sat ⟨fun σ2 S3 => ∃ j, j < (x :: t).length ∧ S3 = S2 ∧ ∃ p2 q2, p ++ x :: t = p2 ++ q2 ∧ j = q2.length ∧ σ2 = [some (.str l), some (.int (a : Int)), some (.int ((a + p2.length : Nat) : Int))], fun d2 S3 => d2 = .int ((a + (p ++ x :: t).length : Nat) : Int) ∧ S3 = S2, fun _ _ => False, fun σ1 S1 => (sRet (eVar 2) σ1 S1).sat ⟨fun _ _ => False, fun d2 S3 => d2 = .int ((a + (p ++ x :: t).length : Nat) : Int) ∧ S3 = S2, fun _ _ => False, fun _ _ => False, fun _ _ => False⟩, fun σ2 S3 => ∃ j, j < (x :: t).length ∧ S3 = S2 ∧ ∃ p2 q2, p ++ x :: t = p2 ++ q2 ∧ j = q2.length ∧ σ2 = [some (.str l), some (.int (a : Int)), some (.int ((a + p2.length : Nat) : Int))]⟩ := by
          rw [aug]
          refine ⟨t.length, by simp, rfl, p ++ [x], t, by simp, rfl, ?_⟩
          simp
          omega
        cases q1 : decide (x ∈ LETS) with
        | true => simp only [q1, if_true, sat_ok]; exact goal
        | false =>
          rw [q1, Bool.false_or] at z
          simp only [q1, z, Bool.false_eq_true, if_false, if_true, sat_ok]
          exact goal
    · simp only [decide_eq_false (show ¬ ((a + p.length : Nat) : Int) < (l.length : Int) by omega), Bool.false_eq_true, if_false, sat_ok, sat_ret, eVar_s, eVar_0]
      have : q.length = 0 := by omega
      simp
      omega
  · have e := congrArg List.length hd
    rw [List.length_drop] at e
    simp at e
    omega
end L2.Mi

set_option Elab.async false
set_option linter.all false
set_option maxRecDepth 100000
set_option maxHeartbeats 1000000
namespace L2.Mi
open PySem
structure Tok where
  k : List Nat
  w : List Nat
  p : Nat
def Tok.d (t : Tok) : D := .tup [.str t.k, .str t.w, .int (t.p : Int)]
/-- the tokens of a rest that stands at a -/
inductive Tk (sg : List Nat) (ks : List (List Nat)) : Nat → List Nat → List Tok → Prop
  | nil {a : Nat} : Tk sg ks a [] [⟨ENDW, [], a⟩]
  | gap {a c : Nat} {t : List Nat} {ts : List Tok} (h : c = 32 ∨ c = 10) (r : Tk sg ks (a + 1) t ts) : Tk sg ks a (c :: t) ts
  | sign {a c : Nat} {t : List Nat} {ts : List Tok} (h1 : c ≠ 32) (h2 : c ≠ 10) (h : c ∈ sg) (r : Tk sg ks (a + 1) t ts) : Tk sg ks a (c :: t) (⟨MARK, [c], a⟩ :: ts)
  | run {a : Nat} {w rest : List Nat} {ts : List Tok} (h0 : w ≠ []) (h1 : ∀ c ∈ w, LD c = true) (h2 : ∀ c t, rest = c :: t → LD c = false) (h3 : kindS ks w ≠ BADW) (r : Tk sg ks (a + w.length) rest ts) : Tk sg ks a (w ++ rest) (⟨kindS ks w, w, a⟩ :: ts)
  | odd {a c : Nat} {t : List Nat} (h1 : c ≠ 32) (h2 : c ≠ 10) (h : c ∉ sg) (h3 : LD c = false) : Tk sg ks a (c :: t) [⟨BADW, [], a⟩]
  | bad {a : Nat} {w rest : List Nat} (h0 : w ≠ []) (h1 : ∀ c ∈ w, LD c = true) (h2 : ∀ c t, rest = c :: t → LD c = false) (h3 : kindS ks w = BADW) : Tk sg ks a (w ++ rest) [⟨BADW, [], a⟩]
def tokT (lx : FN) : MT := tOf (eBin ltI (eVar 4) (eFn lx (aList [eVar 0])))
def tokB (oE : Op2) (kF eF : FN) : MS := sIf (tOf (eBin (inF false) (eBin itemF (eVar 0) (eVar 4)) (eTup [eC (.str [32]), eC (.str [10])]))) (sAug 4 addI (eC (.int 1))) (sIf (tOf (eBin (inF false) (eBin itemF (eVar 0) (eVar 4)) (eVar 1))) (sSeq (sDrop (eBm isLst appendF (eVar 3) (aList [eTup [eC (.str MARK), eBin itemF (eVar 0) (eVar 4), eVar 4]])))
    (sAug 4 addI (eC (.int 1)))) (sSeq (sSet 5 (eFn eF (aList [eVar 0, eVar 4])))
    (sSeq (sIf (tOr (tOf (eBin oE (eVar 5) (eVar 4))) (tOf (eBin oE (eFn kF (aList [eSlice (eVar 0) (oSome (eVar 4)) (oSome (eVar 5)), eVar 2])) (eC (.str BADW))))) (sSeq (sDrop (eBm isLst appendF (eVar 3) (aList [eTup [eC (.str BADW), eC (.str []), eVar 4]])))
    (sRet (eVar 3))) (sNext))
    (sSeq (sDrop (eBm isLst appendF (eVar 3) (aList [eTup [eFn kF (aList [eSlice (eVar 0) (oSome (eVar 4)) (oSome (eVar 5)), eVar 2]), eSlice (eVar 0) (oSome (eVar 4)) (oSome (eVar 5)), eVar 4]])))
    (sSet 4 (eVar 5))))))
def tokE (lx : FN) : MS := sSeq (sDrop (eBm isLst appendF (eVar 3) (aList [eTup [eC (.str ENDW), eC (.str []), eFn lx (aList [eVar 0])]])))
    (sRet (eVar 3))
def toksM (lx : FN) (oE : Op2) (kF eF : FN) : MS := sSeq (sSet 3 (eLst [])) (sSeq (sSet 4 (eC (.int 0))) (sSeq (sWhile (tokT lx) (tokB oE kF eF) 100000) (tokE lx)))
theorem LD_no {c : Nat} (h : LD c = true) : c ≠ 32 ∧ c ≠ 10 := by
  refine ⟨fun z => ?_, fun z => ?_⟩ <;> subst z <;> exact absurd h (by decide)
theorem while_step {t : MT} {b : MS} {n : Nat} {σ : En} {S : Store} : sWhile t b (n + 1) σ S = (match t σ S with
    | .ok true S1 => (match b σ S1 with
      | .nx σ2 S2 => sWhile t b n σ2 S2
      | .ct σ2 S2 => sWhile t b n σ2 S2
      | .bk σ2 S2 => .nx σ2 S2
      | r => r)
    | .ok false S1 => .nx σ S1
    | .exc x S1 => .exc x σ S1
    | .bad => .bad) := (rfl)
@[simp] theorem eSlice_ev {m : ME} {lo hi : MO} {σ : En} {S : Store} : eSlice m lo hi σ S = (m σ S).bind fun x S1 => (lo σ S1).bind fun l S2 => (hi σ S2).bind fun h S3 => sliceF x l h S3 := (rfl)
structure TokF (ks : List (List Nat)) (kd : D) (oE : Op2) (kF eF : FN) : Prop where
  kq : ∀ S, seqD S kd = some (ks.map D.str)
  eI : ∀ i j S, oE (.int i) (.int j) S = .ok (.bl (i == j)) S
  eS : ∀ a b S, Txt a → Txt b → oE (.str a) (.str b) S = .ok (.bl (a == b)) S
  kF : ∀ w S, w ≠ [] → w.length ≤ 90000 → Txt w → kF [.str w, kd] S = .ok (.str (kindS ks w)) S
  eF : ∀ (l r rest : List Nat) (a : Nat) S, l.length ≤ 90000 → l.drop a = r ++ rest → a ≤ l.length → (∀ c ∈ r, LD c = true) → (∀ c t, rest = c :: t → LD c = false) → eF [.str l, .int (a : Int)] S = .ok (.int ((a + r.length : Nat) : Int)) S
theorem kindS_txt {ks : List (List Nat)} {w : List Nat} : Txt (kindS ks w) := by
  have m : Txt MARK := by unfold Txt; decide
  have b : Txt BADW := by unfold Txt; decide
  have n : Txt NAME := by unfold Txt; decide
  have u : Txt NUMB := by unfold Txt; decide
  unfold kindS
  split
  · exact m
  · split
    · exact b
    · split
      · exact n
      · split
        · split
          · exact b
          · exact u
        · exact b
section
variable {sg : List Nat} {ks : List (List Nat)} {kd : D} {oE : Op2} {kF eF lx : FN} {k : Nat} {l : List Nat}
theorem tok_go (hx : LenOk lx) (F : TokF ks kd oE kF eF) (hsg : ∀ c ∈ sg, LD c = false) (hl : l.length ≤ 90000) (htx : Txt l) {a : Nat} {rest : List Nat} {ts : List Tok} (h : Tk sg ks a rest ts) :
    ∀ (pre : List Nat) (acc : List D) (S : Store) (n : Nat) (o5 : Option D), l = pre ++ rest → a = pre.length → S.get k = some (.lst acc) → acc.length + rest.length ≤ 90000 → rest.length < n →
      sSeq (sWhile (tokT lx) (tokB oE kF eF) n) (tokE lx) [some (.str l), some (.str sg), some kd, some (.ref k), some (.int (a : Int)), o5] S = .rt (.ref k) (S.set k (.lst (acc ++ ts.map Tok.d))) := by
  have tB : Txt BADW := by unfold Txt; decide
  have test : ∀ {a : Nat} {o5 : Option D} {S : Store}, tokT lx [some (.str l), some (.str sg), some kd, some (.ref k), some (.int (a : Int)), o5] S = .ok (decide (a < l.length)) S := fun {a o5 S} => by
    unfold tokT
    simp only [tOf_ev, eBin_ev, eVar_s, eVar_0, bind_ok', eFn_ev, aList_cons, aList_nil, hx _ _ (show l.length ≤ 900000 by omega), ltI_ev]
    congr 1
    by_cases h : a < l.length
    · rw [decide_eq_true h, decide_eq_true (by omega)]
    · rw [decide_eq_false h, decide_eq_false (by omega)]
  induction h with
  | @nil a =>
    intro pre acc S n o5 e1 e2 hg hb hn
    obtain ⟨n, rfl⟩ : ∃ m, n = m + 1 := ⟨n - 1, by simp at hn; omega⟩
    have el : l.length = a := by rw [e1, e2]; simp
    rw [sSeq_ev, while_step, test, decide_eq_false (by omega)]
    unfold tokE
    simp only [sSeq_ev, sDrop_ev, eBm_ev, eVar_s, eVar_0, bind_ok', isLst_ev hg, if_true, aList_cons, aList_nil, eTup_ev, eC_ev, eFn_ev, hx _ _ (show l.length ≤ 900000 by omega), appendF_ev hg (show acc.length < 900000 by omega), sRet_ev, el]
    rfl
  | @gap a c t ts h r ih =>
    intro pre acc S n o5 e1 e2 hg hb hn
    obtain ⟨n, rfl⟩ : ∃ m, n = m + 1 := ⟨n - 1, by simp at hn; omega⟩
    have hc : l[a]? = some c := by rw [e1, e2]; simp
    have hlt : a < l.length := (List.getElem?_eq_some_iff.mp hc).1
    have i0 : itemF (.str l) (.int (a : Int)) S = .ok (.str [c]) S := itemF_str (by omega) hc
    have w2 : seqD S (.tup [.str [32], .str [10]]) = some ([[32], [10]].map D.str) := rfl
    have body : tokB oE kF eF [some (.str l), some (.str sg), some kd, some (.ref k), some (.int (a : Int)), o5] S = .nx [some (.str l), some (.str sg), some kd, some (.ref k), some (.int ((a + 1 : Nat) : Int)), o5] S := by
      unfold tokB
      have y : ([[32], [10]] : List (List Nat)).any (· == [c]) = true := by rcases h with rfl | rfl <;> rfl
      simp only [sIf_ev, tOf_ev, eBin_ev, eVar_s, eVar_0, bind_ok', i0, eTup_ev, aList_cons, aList_nil, eC_ev, inF_strs w2, Bool.false_eq_true, if_false, y, if_true]
      rfl
    rw [sSeq_ev, while_step, test, decide_eq_true hlt]
    simp only [body]
    have z := ih (pre ++ [c]) acc S n o5 (by simp [e1]) (by simp [e2]) hg (by simp at hb; omega) (by simp at hn; omega)
    rw [sSeq_ev] at z
    exact z
  | @sign a c t ts h1 h2 h r ih =>
    intro pre acc S n o5 e1 e2 hg hb hn
    obtain ⟨n, rfl⟩ : ∃ m, n = m + 1 := ⟨n - 1, by simp at hn; omega⟩
    have hc : l[a]? = some c := by rw [e1, e2]; simp
    have hlt : a < l.length := (List.getElem?_eq_some_iff.mp hc).1
    have i0 : ∀ S, itemF (.str l) (.int (a : Int)) S = .ok (.str [c]) S := fun S => itemF_str (by omega) hc
    have w2 : seqD S (.tup [.str [32], .str [10]]) = some ([[32], [10]].map D.str) := rfl
    have body : tokB oE kF eF [some (.str l), some (.str sg), some kd, some (.ref k), some (.int (a : Int)), o5] S = .nx [some (.str l), some (.str sg), some kd, some (.ref k), some (.int ((a + 1 : Nat) : Int)), o5] (S.set k (.lst (acc ++ [(⟨MARK, [c], a⟩ : Tok).d]))) := by
      unfold tokB
      have y : ([[32], [10]] : List (List Nat)).any (· == [c]) = false := by simp [Ne.symm h1, Ne.symm h2]
      simp only [sIf_ev, tOf_ev, eBin_ev, eVar_s, eVar_0, bind_ok', i0, eTup_ev, aList_cons, aList_nil, eC_ev, inF_strs w2, inF_chr, Bool.false_eq_true, if_false, y, decide_eq_true h, if_true, sSeq_ev, sDrop_ev, eBm_ev, isLst_ev hg, appendF_ev hg (show acc.length < 900000 by omega)]
      rfl
    rw [sSeq_ev, while_step, test, decide_eq_true hlt]
    simp only [body]
    have z := ih (pre ++ [c]) (acc ++ [(⟨MARK, [c], a⟩ : Tok).d]) (S.set k (.lst (acc ++ [(⟨MARK, [c], a⟩ : Tok).d]))) n o5 (by simp [e1]) (by simp [e2]) (Store.get_set_same' hg) (by simp at hb ⊢; omega) (by simp at hn; omega)
    rw [sSeq_ev, Store.set_set] at z
    rw [z, List.map_cons, List.append_assoc]
    rfl
  | @run a w rest ts h0 h1 h2 h3 r ih =>
    intro pre acc S n o5 e1 e2 hg hb hn
    obtain ⟨n, rfl⟩ : ∃ m, n = m + 1 := ⟨n - 1, by simp at hn; omega⟩
    obtain ⟨c, w', rfl⟩ : ∃ c w', w = c :: w' := by
      cases w with
      | nil => exact absurd rfl h0
      | cons c w' => exact ⟨c, w', rfl⟩
    have hc : l[a]? = some c := by rw [e1, e2]; simp
    have hlt : a < l.length := (List.getElem?_eq_some_iff.mp hc).1
    have hLD := h1 c (by simp)
    obtain ⟨n1, n2⟩ := LD_no hLD
    have n3 : c ∉ sg := fun z => by rw [hsg c z] at hLD; cases hLD
    have i0 : ∀ S, itemF (.str l) (.int (a : Int)) S = .ok (.str [c]) S := fun S => itemF_str (by omega) hc
    have w2 : seqD S (.tup [.str [32], .str [10]]) = some ([[32], [10]].map D.str) := rfl
    have hd : l.drop a = (c :: w') ++ rest := by rw [e1, e2, List.drop_left]
    have hlen : l.length = a + (c :: w').length + rest.length := by rw [e1, e2]; simp; omega
    have ee := F.eF l (c :: w') rest a S (by omega) hd (by omega) h1 h2
    have sl : ∀ S, sliceF (.str l) (some (a : Int)) (some ((a + (c :: w').length : Nat) : Int)) S = .ok (.str (c :: w')) S := fun S => by
      rw [sliceF_str (by omega) (by omega) (by omega), hd, Nat.add_sub_cancel_left, List.take_left]
    have tw : Txt (c :: w') := htx.sub fun x hx => by rw [e1]; simp only [List.mem_append]; exact .inr (.inl hx)
    have kk : ∀ S, kF [.str (c :: w'), kd] S = .ok (.str (kindS ks (c :: w'))) S := fun S => F.kF _ S (by simp) (by omega) tw
    have y : ([[32], [10]] : List (List Nat)).any (· == [c]) = false := by simp [Ne.symm n1, Ne.symm n2]
    have ne1 : ((((a + (c :: w').length : Nat) : Int)) == (a : Int)) = false := by
      refine beq_eq_false_iff_ne.mpr ?_
      simp only [List.length_cons]
      omega
    have ne2 : (kindS ks (c :: w') == BADW) = false := beq_eq_false_iff_ne.mpr h3
    have o1 : ∀ (S : Store), oSome (eVar 4) [some (.str l), some (.str sg), some kd, some (.ref k), some (.int (a : Int)), some (.int ((a + (c :: w').length : Nat) : Int))] S = .ok (some (a : Int)) S := fun S => rfl
    have o2 : ∀ (S : Store), oSome (eVar 5) [some (.str l), some (.str sg), some kd, some (.ref k), some (.int (a : Int)), some (.int ((a + (c :: w').length : Nat) : Int))] S = .ok (some ((a + (c :: w').length : Nat) : Int)) S := fun S => rfl
    have body : tokB oE kF eF [some (.str l), some (.str sg), some kd, some (.ref k), some (.int (a : Int)), o5] S = .nx [some (.str l), some (.str sg), some kd, some (.ref k), some (.int ((a + (c :: w').length : Nat) : Int)), some (.int ((a + (c :: w').length : Nat) : Int))] (S.set k (.lst (acc ++ [(⟨kindS ks (c :: w'), c :: w', a⟩ : Tok).d]))) := by
      unfold tokB
      simp only [sIf_ev, tOf_ev, eBin_ev, eVar_s, eVar_0, bind_ok', i0, eTup_ev, aList_cons, aList_nil, eC_ev, inF_strs w2, inF_chr, Bool.false_eq_true, if_false, y, decide_eq_false n3, sSeq_ev, sAsg_ev, eFn_ev, ee, gName_ev, List.set_cons_succ, List.set_cons_zero, tOr_ev, F.eI, ne1, eSlice_ev, o1, o2, sl, kk, F.eS _ _ _ kindS_txt tB, ne2, sNext_ev, sDrop_ev, eBm_ev, isLst_ev hg, if_true, appendF_ev hg (show acc.length < 900000 by omega)]
      rfl
    rw [sSeq_ev, while_step, test, decide_eq_true hlt]
    simp only [body]
    have z := ih (pre ++ (c :: w')) (acc ++ [(⟨kindS ks (c :: w'), c :: w', a⟩ : Tok).d]) (S.set k (.lst (acc ++ [(⟨kindS ks (c :: w'), c :: w', a⟩ : Tok).d]))) n (some (.int ((a + (c :: w').length : Nat) : Int))) (by simp [e1]) (by simp [e2]) (Store.get_set_same' hg) (by simp at hb ⊢; omega) (by simp at hn; omega)
    rw [sSeq_ev, Store.set_set] at z
    rw [z, List.map_cons, List.append_assoc]
    rfl
  | @odd a c t h1 h2 h h3 =>
    intro pre acc S n o5 e1 e2 hg hb hn
    obtain ⟨n, rfl⟩ : ∃ m, n = m + 1 := ⟨n - 1, by simp at hn; omega⟩
    have hc : l[a]? = some c := by rw [e1, e2]; simp
    have hlt : a < l.length := (List.getElem?_eq_some_iff.mp hc).1
    have i0 : ∀ S, itemF (.str l) (.int (a : Int)) S = .ok (.str [c]) S := fun S => itemF_str (by omega) hc
    have w2 : seqD S (.tup [.str [32], .str [10]]) = some ([[32], [10]].map D.str) := rfl
    have hd : l.drop a = [] ++ c :: t := by rw [e1, e2, List.drop_left]; rfl
    have ee := F.eF l [] (c :: t) a S (by omega) hd (by omega) (by simp) (fun x y z => by cases z; exact h3)
    have y : ([[32], [10]] : List (List Nat)).any (· == [c]) = false := by simp [Ne.symm h1, Ne.symm h2]
    have body : tokB oE kF eF [some (.str l), some (.str sg), some kd, some (.ref k), some (.int (a : Int)), o5] S = .rt (.ref k) (S.set k (.lst (acc ++ [(⟨BADW, [], a⟩ : Tok).d]))) := by
      unfold tokB
      simp only [sIf_ev, tOf_ev, eBin_ev, eVar_s, eVar_0, bind_ok', i0, eTup_ev, aList_cons, aList_nil, eC_ev, inF_strs w2, inF_chr, Bool.false_eq_true, if_false, y, decide_eq_false h, sSeq_ev, sAsg_ev, eFn_ev, ee, gName_ev, List.set_cons_succ, List.set_cons_zero, tOr_ev, F.eI, List.length_nil, Nat.add_zero, beq_self_eq_true, if_true, sDrop_ev, eBm_ev, isLst_ev hg, appendF_ev hg (show acc.length < 900000 by omega), sRet_ev]
      rfl
    rw [sSeq_ev, while_step, test, decide_eq_true hlt]
    simp only [body]
    rfl
  | @bad a w rest h0 h1 h2 h3 =>
    intro pre acc S n o5 e1 e2 hg hb hn
    obtain ⟨n, rfl⟩ : ∃ m, n = m + 1 := ⟨n - 1, by simp at hn; omega⟩
    obtain ⟨c, w', rfl⟩ : ∃ c w', w = c :: w' := by
      cases w with
      | nil => exact absurd rfl h0
      | cons c w' => exact ⟨c, w', rfl⟩
    have hc : l[a]? = some c := by rw [e1, e2]; simp
    have hlt : a < l.length := (List.getElem?_eq_some_iff.mp hc).1
    have hLD := h1 c (by simp)
    obtain ⟨n1, n2⟩ := LD_no hLD
    have n3 : c ∉ sg := fun z => by rw [hsg c z] at hLD; cases hLD
    have i0 : ∀ S, itemF (.str l) (.int (a : Int)) S = .ok (.str [c]) S := fun S => itemF_str (by omega) hc
    have w2 : seqD S (.tup [.str [32], .str [10]]) = some ([[32], [10]].map D.str) := rfl
    have hd : l.drop a = (c :: w') ++ rest := by rw [e1, e2, List.drop_left]
    have hlen : l.length = a + (c :: w').length + rest.length := by rw [e1, e2]; simp; omega
    have ee := F.eF l (c :: w') rest a S (by omega) hd (by omega) h1 h2
    have sl : ∀ S, sliceF (.str l) (some (a : Int)) (some ((a + (c :: w').length : Nat) : Int)) S = .ok (.str (c :: w')) S := fun S => by
      rw [sliceF_str (by omega) (by omega) (by omega), hd, Nat.add_sub_cancel_left, List.take_left]
    have tw : Txt (c :: w') := htx.sub fun x hx => by rw [e1]; simp only [List.mem_append]; exact .inr (.inl hx)
    have kk : ∀ S, kF [.str (c :: w'), kd] S = .ok (.str BADW) S := fun S => by rw [F.kF _ S (by simp) (by omega) tw, h3]
    have y : ([[32], [10]] : List (List Nat)).any (· == [c]) = false := by simp [Ne.symm n1, Ne.symm n2]
    have ne1 : ((((a + (c :: w').length : Nat) : Int)) == (a : Int)) = false := by
      refine beq_eq_false_iff_ne.mpr ?_
      simp only [List.length_cons]
      omega
    have o1 : ∀ (S : Store), oSome (eVar 4) [some (.str l), some (.str sg), some kd, some (.ref k), some (.int (a : Int)), some (.int ((a + (c :: w').length : Nat) : Int))] S = .ok (some (a : Int)) S := fun S => rfl
    have o2 : ∀ (S : Store), oSome (eVar 5) [some (.str l), some (.str sg), some kd, some (.ref k), some (.int (a : Int)), some (.int ((a + (c :: w').length : Nat) : Int))] S = .ok (some ((a + (c :: w').length : Nat) : Int)) S := fun S => rfl
    have body : tokB oE kF eF [some (.str l), some (.str sg), some kd, some (.ref k), some (.int (a : Int)), o5] S = .rt (.ref k) (S.set k (.lst (acc ++ [(⟨BADW, [], a⟩ : Tok).d]))) := by
      unfold tokB
      simp only [sIf_ev, tOf_ev, eBin_ev, eVar_s, eVar_0, bind_ok', i0, eTup_ev, aList_cons, aList_nil, eC_ev, inF_strs w2, inF_chr, Bool.false_eq_true, if_false, y, decide_eq_false n3, sSeq_ev, sAsg_ev, eFn_ev, ee, gName_ev, List.set_cons_succ, List.set_cons_zero, tOr_ev, F.eI, ne1, eSlice_ev, o1, o2, sl, kk, F.eS _ _ _ tB tB, beq_self_eq_true, sDrop_ev, eBm_ev, isLst_ev hg, if_true, appendF_ev hg (show acc.length < 900000 by omega), sRet_ev]
      rfl
    rw [sSeq_ev, while_step, test, decide_eq_true hlt]
    simp only [body]
    rfl
theorem toks_ok (hx : LenOk lx) (F : TokF ks kd oE kF eF) (hsg : ∀ c ∈ sg, LD c = false) (hl : l.length ≤ 90000) (htx : Txt l) {ts : List Tok} (h : Tk sg ks 0 l ts) {S : Store} :
    toksM lx oE kF eF [some (.str l), some (.str sg), some kd, none, none, none] S = .rt (.ref S.size) (S.push (.lst (ts.map Tok.d))) := by
  unfold toksM
  have z := tok_go (k := S.size) hx F hsg hl htx h [] [] (S.push (.lst [])) 100000 none rfl rfl Store.get_push_same (by simp; omega) (by omega)
  have e : ((S.push (.lst [])).set S.size (.lst ([] ++ ts.map Tok.d))) = S.push (.lst (ts.map Tok.d)) := by
    unfold Store.set Store.push Store.size
    simp
  rw [e] at z
  simp only [sSeq_ev, sAsg_ev, eLst_ev, aList_nil, bind_ok', gName_ev, List.set_cons_succ, List.set_cons_zero, eC_ev] at z ⊢
  exact z
end
end L2.Mi

set_option Elab.async false
set_option linter.all false
set_option maxRecDepth 100000
set_option maxHeartbeats 1000000
namespace L2.Mi
open PySem
inductive PErr where
  | syn (p : Nat)
  | big (w : List Nat)
  | none
abbrev NUMBERS : List Nat := [110, 117, 109, 98, 101, 114, 115]
def Tok.is (t : Tok) (w : List Nat) : Bool := t.k == MARK && t.w == w
abbrev PR (β : Type) := Except PErr (β × List Tok)
inductive Fac where
  | num (v : Int) | nn | ctr (w : List Nat)
def Fac.d : Fac → D
  | .num v => .int v
  | .nn => .str [110]
  | .ctr w => .str w
def Fac.stop : Fac → Bool
  | .ctr _ => true
  | _ => false
structure Term where
  c : List Nat
  p : Nat
  v : Int
def andThen {α β : Type} (a : PR α) (f : α → List Tok → PR β) : PR β := match a with
  | .error e => .error e
  | .ok (x, r) => f x r
def Tok.ends (t : Tok) : Prop := t.k = ENDW ∨ t.k = BADW
def Stop (ts : List Tok) : Prop := ∃ p t, ts = p ++ [t] ∧ t.ends
theorem Stop.ne {ts : List Tok} (h : Stop ts) : ts ≠ [] := by
  obtain ⟨p, t, rfl, _⟩ := h
  simp
theorem Stop.cons {ts : List Tok} (h : Stop ts) : ∃ t r, ts = t :: r := by
  cases ts with
  | nil => exact absurd rfl h.ne
  | cons t r => exact ⟨t, r, rfl⟩
theorem Stop.tail {t : Tok} {r : List Tok} (h : Stop (t :: r)) (n : ¬ t.ends) : Stop r := by
  obtain ⟨p, u, e, hu⟩ := h
  cases p with
  | nil =>
    simp at e
    rw [← e.1] at hu
    exact absurd hu n
  | cons x p =>
    simp at e
    exact ⟨p, u, e.2, hu⟩
/-- a reader that goes on: less is left, and it is a rest -/
def Goes (r : List Tok) (r' : List Tok) : Prop := ∃ p, r = p ++ r' ∧ p ≠ [] ∧ Stop r'
theorem Goes.lt {r r' : List Tok} (h : Goes r r') : r'.length < r.length := by
  obtain ⟨p, rfl, hp, _⟩ := h
  have : 0 < p.length := List.length_pos_iff.mpr hp
  simp
  omega
theorem Goes.trans {a b c : List Tok} (h1 : Goes a b) (h2 : Goes b c) : Goes a c := by
  obtain ⟨p, rfl, hp, _⟩ := h1
  obtain ⟨q, rfl, hq, hs⟩ := h2
  exact ⟨p ++ q, by simp, by simp [hp], hs⟩
theorem Goes.one {t : Tok} {r : List Tok} (h : Stop (t :: r)) (n : ¬ t.ends) : Goes (t :: r) r := ⟨[t], rfl, by simp, h.tail n⟩
end L2.Mi

set_option Elab.async false
set_option linter.all false
set_option maxRecDepth 100000
set_option maxHeartbeats 1000000
namespace L2.Mi
open PySem
section
variable {σ : En} {S S1 : Store}
theorem walk_ky {m : ME} {n : Nat} {kvs : List (D × D)} (ha : m σ S = .ok (.ref n) S1) (h : S1.get n = some (.lck (.dic false kvs))) : Walk (iKy m) σ S (kvs.map (·.1)) S1 := by
  have e0 : iKy m σ S = .ok (fun k _ => some ((kvs[k]?).map (·.1))) S1 := by
    unfold iKy
    rw [ha, bind_ok']
    simp only [h]
  exact ⟨_, e0, fun k S => by rw [List.getElem?_map]⟩
end
theorem eqKD_str {a b : List Nat} : eqKD (.str a) (.str b) = (a == b) := rfl
end L2.Mi

set_option Elab.async false
set_option linter.all false
set_option maxRecDepth 100000
set_option maxHeartbeats 1000000
namespace L2.Mi
open PySem
theorem Goes.st {r r' : List Tok} (h : Goes r r') : Stop r' := by
  obtain ⟨_, _, _, h⟩ := h
  exact h
end L2.Mi

set_option Elab.async false
set_option linter.all false
set_option maxRecDepth 100000
set_option maxHeartbeats 1000000
namespace L2.Mi
open PySem
theorem kindS_cases {ks : List (List Nat)} {w : List Nat} : (kindS ks w = MARK ∧ ks.any (· == w) = true) ∨ (kindS ks w = NAME ∧ ks.any (· == w) = false) ∨ (kindS ks w = NUMB ∧ allD w = true ∧ w ≠ []) ∨ kindS ks w = BADW := by
  unfold kindS
  cases h : ks.any (· == w) with
  | true => exact .inl ⟨rfl, rfl⟩
  | false =>
    simp only [Bool.false_eq_true, if_false]
    cases w with
    | nil => exact .inr (.inr (.inr rfl))
    | cons c r =>
      by_cases h1 : c ∈ LETS
      · simp [h1]
      · simp only [decide_eq_false h1, Bool.false_eq_true, if_false]
        by_cases h2 : allD (c :: r) = true
        · rw [if_pos h2]
          by_cases h3 : (c == 48 && !r.isEmpty) = true
          · rw [if_pos h3]
            exact .inr (.inr (.inr rfl))
          · rw [if_neg h3]
            exact .inr (.inr (.inl ⟨rfl, h2, by simp⟩))
        · rw [if_neg h2]
          exact .inr (.inr (.inr rfl))
theorem digs_num {w : List Nat} (h : allD w = true) (h0 : w ≠ []) (hl : w.length ≤ 150) : ∃ v, PySem.intText? ⟨w.toArray⟩ = some v := by
  have e : ((⟨w.toArray⟩ : Str).cps.toList) = w := by simp
  refine ⟨_, intText_digits (x := ⟨w.toArray⟩) ?_ ?_ ?_⟩
  · rw [e]
    intro c hc
    unfold allD at h
    have z := List.all_eq_true.mp h c hc
    have z2 : c ∈ DIGS := by simpa using z
    unfold DIGS at z2
    simp at z2
    constructor <;> omega
  · rw [e]; exact h0
  · show (⟨w.toArray⟩ : Str).length ≤ 4300
    simp [Str.length]
    omega
structure TokA (ks : List (List Nat)) (m : Nat) (t : Tok) : Prop where
  k : Txt t.k
  w : Txt t.w
  v : t.k = NUMB → t.w.length ≤ 150 → ∃ v, PySem.intText? ⟨t.w.toArray⟩ = some v
  n : t.k = NAME → ks.any (· == t.w) = false
  l : t.w.length ≤ m
theorem tk_all {sg : List Nat} {ks : List (List Nat)} {a : Nat} {l : List Nat} {ts : List Tok} {m : Nat} (h : Tk sg ks a l ts) : Txt l → l.length ≤ m → (∀ t ∈ ts, TokA ks m t) ∧ Stop ts ∧ ts.length ≤ l.length + 1 := by
  have tE : Txt ENDW := by unfold Txt; decide
  have tB : Txt BADW := by unfold Txt; decide
  have tM : Txt MARK := by unfold Txt; decide
  have t0 : Txt [] := fun c hc => nomatch hc
  have one : ∀ {k : List Nat} {p : Nat}, Txt k → k ≠ NUMB → k ≠ NAME → TokA ks m ⟨k, [], p⟩ := fun hk n1 n2 => ⟨hk, t0, fun z => absurd z n1, fun z => absurd z n2, Nat.zero_le _⟩
  induction h with
  | @nil a => exact fun _ _ => ⟨fun t ht => by simp at ht; subst ht; exact one tE (by decide) (by decide), ⟨[], _, rfl, .inl rfl⟩, by simp⟩
  | @gap a c t ts h r ih =>
    intro hx hl
    obtain ⟨i1, i2, i3⟩ := ih (hx.sub fun x hx => by simp [hx]) (by simp at hl; omega)
    exact ⟨i1, i2, by simp; omega⟩
  | @sign a c t ts h1 h2 h r ih =>
    intro hx hl
    obtain ⟨i1, i2, i3⟩ := ih (hx.sub fun x hx => by simp [hx]) (by simp at hl; omega)
    refine ⟨fun u hu => ?_, ?_, by simp; omega⟩
    · rcases List.mem_cons.mp hu with rfl | hu
      · exact ⟨tM, hx.sub fun x hx => by simp at hx; simp [hx], fun z => absurd (show MARK = NUMB from z) (by decide), fun z => absurd (show MARK = NAME from z) (by decide), by simp at hl ⊢; omega⟩
      · exact i1 u hu
    · obtain ⟨p, u, e, hu⟩ := i2
      exact ⟨_ :: p, u, by rw [e]; rfl, hu⟩
  | @run a w rest ts h0 h1 h2 h3 r ih =>
    intro hx hl
    obtain ⟨i1, i2, i3⟩ := ih (hx.sub fun x hx => by simp [hx]) (by simp at hl; omega)
    have hw : 0 < w.length := List.length_pos_iff.mpr h0
    refine ⟨fun u hu => ?_, ?_, by simp; omega⟩
    · rcases List.mem_cons.mp hu with rfl | hu
      · refine ⟨kindS_txt, hx.sub fun x hx => by simp [hx], fun z hb => ?_, fun z => ?_, by simp at hl ⊢; omega⟩
        · have z : kindS ks w = NUMB := z
          rcases kindS_cases (ks := ks) (w := w) with ⟨q, _⟩ | ⟨q, _⟩ | ⟨_, q1, q2⟩ | q
          · rw [q] at z; exact absurd z (by decide)
          · rw [q] at z; exact absurd z (by decide)
          · exact digs_num q1 q2 hb
          · rw [q] at z; exact absurd z (by decide)
        · have z : kindS ks w = NAME := z
          rcases kindS_cases (ks := ks) (w := w) with ⟨q, _⟩ | ⟨_, q⟩ | ⟨q, _, _⟩ | q
          · rw [q] at z; exact absurd z (by decide)
          · exact q
          · rw [q] at z; exact absurd z (by decide)
          · rw [q] at z; exact absurd z (by decide)
      · exact i1 u hu
    · obtain ⟨p, u, e, hu⟩ := i2
      exact ⟨_ :: p, u, by rw [e]; rfl, hu⟩
  | @odd a c t h1 h2 h h3 => exact fun _ _ => ⟨fun t ht => by simp at ht; subst ht; exact one tB (by decide) (by decide), ⟨[], _, rfl, .inr rfl⟩, by simp⟩
  | @bad a w rest h0 h1 h2 h3 => exact fun _ _ => ⟨fun t ht => by simp at ht; subst ht; exact one tB (by decide) (by decide), ⟨[], _, rfl, .inr rfl⟩, by simp⟩
end L2.Mi

set_option Elab.async false
set_option linter.all false
set_option maxRecDepth 100000
set_option maxHeartbeats 1000000
namespace L2.Mi
open PySem
theorem Tk.word {sg : List Nat} {ks : List (List Nat)} {a : Nat} {w rest K : List Nat} {ts : List Tok} (hk : kindS ks w = K) (hK : K ≠ BADW) (h0 : w ≠ []) (h1 : ∀ c ∈ w, LD c = true) (h2 : ∀ c t, rest = c :: t → LD c = false) (r : Tk sg ks (a + w.length) rest ts) : Tk sg ks a (w ++ rest) (⟨K, w, a⟩ :: ts) := by
  subst hk
  exact .run h0 h1 h2 hK r
theorem cutD_mem {α : Type} {l : List α} {lo hi : Option Int} {c : α} (h : c ∈ cutD l lo hi) : c ∈ l := List.mem_of_mem_drop (List.mem_of_mem_take h)
end L2.Mi

set_option Elab.async false
set_option linter.all false
set_option maxRecDepth 100000
set_option maxHeartbeats 1000000
namespace L2.Mi
open PySem
/-- all that stood stands, but what is at r -/
structure Fr (S S' : Store) (r : Nat) : Prop where
  sz : S.size ≤ S'.size
  same : ∀ j, j < S.size → j ≠ r → S'.get j = S.get j
theorem Fr.refl {S : Store} {r : Nat} : Fr S S r := ⟨Nat.le_refl _, fun _ _ _ => rfl⟩
theorem Fr.trans {S S1 S2 : Store} {r : Nat} (a : Fr S S1 r) (b : Fr S1 S2 r) : Fr S S2 r := ⟨Nat.le_trans a.sz b.sz, fun j h n => (b.same j (Nat.lt_of_lt_of_le h a.sz) n).trans (a.same j h n)⟩
theorem Fr.get {S S1 : Store} {r j : Nat} {o : Ob} (a : Fr S S1 r) (h : S.get j = some o) (n : j ≠ r) : S1.get j = some o := (a.same j (Store.get_lt h) n).trans h
theorem Fr.push {S : Store} {r : Nat} {o : Ob} : Fr S (S.push o) r := ⟨by rw [Store.size_push]; omega, fun j h _ => Store.get_push_lt h⟩
theorem Fr.set {S : Store} {r : Nat} {o : Ob} : Fr S (S.set r o) r := ⟨by rw [Store.size_set]; exact Nat.le_refl _, fun j _ n => Store.get_set_ne (Ne.symm n)⟩
/-- what is new may be changed -/
theorem Fr.set_new {S S1 : Store} {r j : Nat} {o : Ob} (a : Fr S S1 r) (h : S.size ≤ j) : Fr S (S1.set j o) r := ⟨by rw [Store.size_set]; exact a.sz, fun i hi n => by rw [Store.get_set_ne (by omega)]; exact a.same i hi n⟩
theorem Fr.push_new {S S1 : Store} {r : Nat} {o : Ob} (a : Fr S S1 r) : Fr S (S1.push o) r := a.trans Fr.push
theorem opsI_or {f g h k : Op2} : OpsI (opOr (addF f) h) (opOr (mulF g) k) := ⟨fun _ _ _ => rfl, fun i j S q => by unfold opOr; rw [mulF_ev q]; rfl⟩
/-- one of a list, drawn -/
theorem pick {S : Store} {xs : List D} {r : Int} {m : Int} (hm : (xs.length : Int) = m) (r0 : 0 ≤ r) (r1 : r < m) : ∃ x, x ∈ xs ∧ itemF (.lv xs) (.int r) S = .ok x S := by
  have hl : r.toNat < xs.length := by omega
  refine ⟨xs[r.toNat], List.getElem_mem hl, itemF_seq (xs := xs) rfl ?_⟩
  have z := atI_nat (xs := xs) (k := r.toNat) (x := xs[r.toNat]) (List.getElem?_eq_getElem hl)
  rwa [Int.toNat_of_nonneg r0] at z
theorem Pool.lt {S : Store} {i : Nat} (h : Pool S i) : i < S.size := by obtain ⟨_, _, h, _⟩ := h; exact Store.get_lt h
theorem Pool.keep {S S' : Store} {i : Nat} (h : Pool S i) (e : S'.get i = S.get i) : Pool S' i := by
  obtain ⟨a, b, h1, h2⟩ := h
  exact ⟨a, b, e.trans h1, h2⟩
theorem Pool.push {S : Store} {i : Nat} {o : Ob} (h : Pool S i) : Pool (S.push o) i := h.keep (Store.get_push_lt h.lt)
theorem Pool.fr {S S' : Store} {i r : Nat} (h : Pool S i) (f : Fr S S' r) (n : i ≠ r) : Pool S' i := h.keep (f.same i h.lt n)
theorem Fr.other {S S' : Store} {r q : Nat} (f : Fr S S' r) (h : S.size ≤ r) : Fr S S' q := ⟨f.sz, fun j hj _ => f.same j hj (by omega)⟩
theorem Fr.any {S : Store} {r : Nat} : Fr S S r := Fr.refl
end L2.Mi

set_option Elab.async false
set_option linter.all false
set_option maxRecDepth 100000
set_option maxHeartbeats 1000000
namespace L2.Mi
open PySem
mutual
/-- plain data: no reference, texts in order, at most so deep -/
def okD : Nat → D → Bool
  | _, .non => true
  | _, .bl _ => true
  | _, .int _ => true
  | _, .str x => x.all (· < 0x110000)
  | n + 1, .tup ds => okDs n ds
  | n + 1, .kt ds => okDs n ds
  | n + 1, .lv ds => okDs n ds
  | _, _ => false
def okDs : Nat → List D → Bool
  | _, [] => true
  | n, d :: ds => okD n d && okDs n ds
end
mutual
def toP : D → PyData
  | .non => .none
  | .bl b => .bool b
  | .int i => .int i
  | .str x => .str ⟨x.toArray⟩
  | .tup ds => .tuple (toPs ds)
  | .kt ds => .tuple (toPs ds)
  | .lv ds => .list (toPs ds)
  | _ => .none
def toPs : List D → List PyData
  | [] => []
  | d :: ds => toP d :: toPs ds
end
theorem Txt.all {x : List Nat} (h : x.all (· < 0x110000) = true) : Txt x := fun c hc => by
  have := List.all_eq_true.mp h c hc
  simpa using this
theorem Txt.of_ok {x : List Nat} (h : Txt x) : x.all (· < 0x110000) = true := List.all_eq_true.mpr fun c hc => by simpa using h c hc
theorem okD_str {n : Nat} {x : List Nat} (h : Txt x) : okD n (.str x) = true := by
  cases n <;> (unfold okD; exact h.of_ok)
mutual
theorem dat_ok {S : Store} : ∀ (n k : Nat) (d : D), okD n d = true → dat (n + k) S d = some (toP d)
  | n, k, .non, _ => by cases n <;> cases k <;> rfl
  | n, k, .bl b, _ => by cases n <;> cases k <;> rfl
  | n, k, .int b, _ => by cases n <;> cases k <;> rfl
  | n, k, .str b, _ => by cases n <;> cases k <;> rfl
  | 0, k, .tup ds, h => by unfold okD at h; cases h
  | 0, k, .kt ds, h => by unfold okD at h; cases h
  | 0, k, .lv ds, h => by unfold okD at h; cases h
  | n + 1, k, .tup ds, h => by
    unfold okD at h
    rw [Nat.succ_add]
    unfold dat toP
    rw [dats_ok n k ds h]
    rfl
  | n + 1, k, .kt ds, h => by
    unfold okD at h
    rw [Nat.succ_add]
    unfold dat toP
    rw [dats_ok n k ds h]
    rfl
  | n + 1, k, .lv ds, h => by
    unfold okD at h
    rw [Nat.succ_add]
    unfold dat toP
    rw [dats_ok n k ds h]
    rfl
  | n, k, .ref _, h => by cases n <;> (unfold okD at h; cases h)
  | n, k, .ty _, h => by cases n <;> (unfold okD at h; cases h)
  | n, k, .dv _ _, h => by cases n <;> (unfold okD at h; cases h)
  | n, k, .ex _ _ _, h => by cases n <;> (unfold okD at h; cases h)
  | n, k, .cx _, h => by cases n <;> (unfold okD at h; cases h)
  | n, k, .lm _, h => by cases n <;> (unfold okD at h; cases h)
  | n, k, .cl _, h => by cases n <;> (unfold okD at h; cases h)
  | n, k, .fl _, h => by cases n <;> (unfold okD at h; cases h)
theorem dats_ok {S : Store} : ∀ (n k : Nat) (ds : List D), okDs n ds = true → mapO (dat (n + k) S) ds = some (toPs ds)
  | _, _, [], _ => rfl
  | n, k, d :: ds, h => by
    unfold okDs at h
    rw [Bool.and_eq_true] at h
    unfold mapO toPs
    rw [dat_ok n k d h.1, dats_ok n k ds h.2]
end
mutual
theorem lay_ok : ∀ (n : Nat) (d : D), okD n d = true → (toP d).canLay0 = true ∧ (toP d).depth ≤ n
  | n, .non, _ => by unfold toP; simp [PyData.canLay0, PyData.depth]
  | n, .bl b, _ => by unfold toP; simp [PyData.canLay0, PyData.depth]
  | n, .int b, _ => by unfold toP; simp [PyData.canLay0, PyData.depth]
  | n, .str b, h => by
    have h' : b.all (· < 0x110000) = true := by cases n <;> (unfold okD at h; exact h)
    have := (Txt.all h').ok
    unfold toP
    simp [PyData.canLay0, PyData.depth, this]
  | 0, .tup ds, h => by unfold okD at h; cases h
  | 0, .kt ds, h => by unfold okD at h; cases h
  | 0, .lv ds, h => by unfold okD at h; cases h
  | n + 1, .tup ds, h => by
    unfold okD at h
    have z := lays_ok n ds h
    unfold toP
    simp only [PyData.canLay0, PyData.depth]
    exact ⟨z.1, by omega⟩
  | n + 1, .kt ds, h => by
    unfold okD at h
    have z := lays_ok n ds h
    unfold toP
    simp only [PyData.canLay0, PyData.depth]
    exact ⟨z.1, by omega⟩
  | n + 1, .lv ds, h => by
    unfold okD at h
    have z := lays_ok n ds h
    unfold toP
    simp only [PyData.canLay0, PyData.depth]
    exact ⟨z.1, by omega⟩
  | n, .ref _, h => by cases n <;> (unfold okD at h; cases h)
  | n, .ty _, h => by cases n <;> (unfold okD at h; cases h)
  | n, .dv _ _, h => by cases n <;> (unfold okD at h; cases h)
  | n, .ex _ _ _, h => by cases n <;> (unfold okD at h; cases h)
  | n, .cx _, h => by cases n <;> (unfold okD at h; cases h)
  | n, .lm _, h => by cases n <;> (unfold okD at h; cases h)
  | n, .cl _, h => by cases n <;> (unfold okD at h; cases h)
  | n, .fl _, h => by cases n <;> (unfold okD at h; cases h)
theorem lays_ok : ∀ (n : Nat) (ds : List D), okDs n ds = true → PyData.canLayAll0 (toPs ds) = true ∧ PyData.depthAll (toPs ds) ≤ n
  | n, [], _ => by unfold toPs; simp [PyData.canLayAll0, PyData.depthAll]
  | n, d :: ds, h => by
    unfold okDs at h
    rw [Bool.and_eq_true] at h
    have z1 := lay_ok n d h.1
    have z2 := lays_ok n ds h.2
    unfold toPs
    simp only [PyData.canLayAll0, PyData.depthAll, z1.1, z2.1, Bool.and_self]
    exact ⟨trivial, by omega⟩
end
theorem shaped_ok {n : Nat} {d : D} (h : okD n d = true) (hn : n ≤ 64) : SeqAt.shaped (toP d) = true := by
  obtain ⟨h1, h2⟩ := lay_ok n d h
  simp [SeqAt.shaped, h1]
  omega
theorem dat_64 {n : Nat} {d : D} {S : Store} (h : okD n d = true) (hn : n ≤ 64) : dat 64 S d = some (toP d) := by
  have z := dat_ok (S := S) n (64 - n) d h
  rwa [Nat.add_sub_cancel' hn] at z
theorem eqF_ok {own : Op2} {a b : D} {S : Store} (n : Nat) (ha : okD n a = true) (hb : okD n b = true) (hn : n ≤ 64 := by decide) : eqF own a b S = .ok (.bl (PyData.eqv (toP a) (toP b))) S := by
  unfold eqF
  simp only [dat_64 ha hn, dat_64 hb hn, shaped_ok ha hn, shaped_ok hb hn, Bool.and_self, if_true]
theorem neF_ok {own : Op2} {a b : D} {S : Store} (n : Nat) (ha : okD n a = true) (hb : okD n b = true) (hn : n ≤ 64 := by decide) : neF own a b S = .ok (.bl (!PyData.eqv (toP a) (toP b))) S := by
  unfold neF
  simp only [dat_64 ha hn, dat_64 hb hn, shaped_ok ha hn, shaped_ok hb hn, Bool.and_self, if_true]
mutual
theorem eqv_self : ∀ d : D, PyData.eqv (toP d) (toP d) = true
  | .non => by unfold toP; simp [PyData.eqv]
  | .bl b => by unfold toP; simp [PyData.eqv]
  | .int i => by unfold toP; simp [PyData.eqv]
  | .str x => by unfold toP; simp [PyData.eqv]
  | .tup ds => by unfold toP; simp only [PyData.eqv]; exact eqvs_self ds
  | .kt ds => by unfold toP; simp only [PyData.eqv]; exact eqvs_self ds
  | .lv ds => by unfold toP; simp only [PyData.eqv]; exact eqvs_self ds
  | .ref _ => by unfold toP; simp [PyData.eqv]
  | .ty _ => by unfold toP; simp [PyData.eqv]
  | .dv _ _ => by unfold toP; simp [PyData.eqv]
  | .ex _ _ _ => by unfold toP; simp [PyData.eqv]
  | .cx _ => by unfold toP; simp [PyData.eqv]
  | .lm _ => by unfold toP; simp [PyData.eqv]
  | .cl _ => by unfold toP; simp [PyData.eqv]
  | .fn _ => by unfold toP; simp [PyData.eqv]
  | .fl _ => by unfold toP; simp [PyData.eqv]
theorem eqvs_self : ∀ ds : List D, PyData.eqvAll (toPs ds) (toPs ds) = true
  | [] => by unfold toPs; simp [PyData.eqvAll]
  | d :: ds => by
    unfold toPs
    simp only [PyData.eqvAll, eqv_self d, eqvs_self ds, Bool.and_self]
end
theorem eqF_self {own : Op2} {a : D} {S : Store} (n : Nat) (ha : okD n a = true) (hn : n ≤ 64 := by decide) : eqF own a a S = .ok (.bl true) S := by
  rw [eqF_ok n ha ha hn, eqv_self]
theorem neF_self {own : Op2} {a : D} {S : Store} (n : Nat) (ha : okD n a = true) (hn : n ≤ 64 := by decide) : neF own a a S = .ok (.bl false) S := by
  rw [neF_ok n ha ha hn, eqv_self]
  rfl
end L2.Mi

set_option Elab.async false
set_option linter.all false
set_option maxRecDepth 100000
set_option maxHeartbeats 1000000
namespace L2.Mi
open PySem
theorem strsD_map : ∀ ys : List (List Nat), strsD (ys.map D.str) = some ys
  | [] => rfl
  | y :: ys => by
    rw [List.map_cons]
    unfold strsD
    rw [strsD_map ys]
    rfl
theorem joinF_ev {S : Store} {a : List Nat} {ys : List (List Nat)} {d : D} (h : seqD S d = some (ys.map D.str)) (hl : totL ys + ys.length * a.length ≤ 1000000) : joinF (.str a) [d] S = .ok (.str (TL.joinL a ys)) S := by
  unfold joinF
  simp only [h, strsD_map]
  rw [if_pos hl]
theorem totL_cons {y : List Nat} {ys : List (List Nat)} : totL (y :: ys) = y.length + totL ys := by
  unfold totL
  simp
theorem totL_le {k : Nat} : ∀ {ys : List (List Nat)}, (∀ y ∈ ys, y.length ≤ k) → totL ys ≤ ys.length * k
  | [], _ => by simp [totL]
  | y :: ys, h => by
    have h1 := h y (by simp)
    have h2 := totL_le (ys := ys) fun z hz => h z (by simp [hz])
    rw [totL_cons, List.length_cons, Nat.succ_mul]
    omega
theorem Txt.nil : Txt [] := fun c hc => nomatch hc
theorem Txt.one {c : Nat} (h : c < 0x110000) : Txt [c] := fun x hx => by simp at hx; subst hx; exact h
theorem Txt.cut {l : List Nat} {lo hi : Option Int} (h : Txt l) : Txt (cutD l lo hi) := h.sub fun c hc => cutD_mem hc
end L2.Mi

set_option Elab.async false
set_option linter.all false
set_option maxRecDepth 100000
set_option maxHeartbeats 4000000
namespace L2.Mi
open PySem PySem.Spec PyProof.Rows
section
variable {G : Gx} {X : Cx} {W : WX} {o e : Expr} {es : List Expr} {x name : Str} {p pos apos : Pos} {ma : MA} {mo : ME} {k : Nat} {f : FN}
structure CmS (G : Gx) (X : Cx) (c : Nat) (m : Str) (k : Nat) (f : FN) : Prop where
  ex : ∃ (C p g : Addr) (mc : Value), G.cls c = some C ∧ ClX.CRead X.K C mc ∧ ClX.CMet X.K C mc m p g ∧ Cal G X.prog X.w X.mg X.base k g f
inductive SJs (G : Gx) (X : Cx) (W : WX) : List Expr → List ME → Prop
  | nil : SJs G X W [] []
  | cons {e : Expr} {m : ME} {es : List Expr} {ms : List ME} (h : SE G X W e m) (r : SJs G X W es ms) : SJs G X W (e :: es) (m :: ms)
end
end L2.Mi

set_option Elab.async false
set_option linter.all false
set_option maxRecDepth 100000
set_option maxHeartbeats 4000000
namespace L2.Mi
open PySem PySem.Spec PyProof.Rows
def repS : D → D → Store → Res D := fun x y S => match x, y with
  | .str a, .int k => if 0 ≤ k ∧ k ≤ 1000 ∧ a.length ≤ 1000 then .ok (.str (List.replicate k.toNat a).flatten) S else .bad
  | _, _ => .bad
theorem fold_app (a : List Nat) : ∀ (n : Nat) (acc : Array Nat), ((List.replicate n a.toArray).foldl (· ++ ·) acc).toList = acc.toList ++ (List.replicate n a).flatten
  | 0, acc => by simp
  | n + 1, acc => by
    rw [List.replicate_succ, List.replicate_succ, List.foldl_cons, fold_app a n]
    simp
theorem txt_mul {a : List Nat} {k : Int} (h0 : 0 ≤ k) : Txt.mul ⟨a.toArray⟩ k = ⟨(List.replicate k.toNat a).flatten.toArray⟩ := by
  unfold Txt.mul
  by_cases h1 : k < 1
  · have : k = 0 := by omega
    subst this
    rfl
  · rw [if_neg h1]
    by_cases h2 : (k == 1 || (⟨a.toArray⟩ : Str).length == 0) = true
    · rw [if_pos h2]
      simp only [Bool.or_eq_true, beq_iff_eq] at h2
      rcases h2 with rfl | h2
      · simp
      · have : a = [] := List.eq_nil_of_length_eq_zero (by simpa [Str.length] using h2)
        subst this
        simp
    · rw [if_neg h2]
      have z := fold_app a k.toNat #[]
      simp only [List.nil_append] at z
      have : (List.replicate k.toNat a.toArray).foldl (· ++ ·) #[] = (List.replicate k.toNat a).flatten.toArray := by
        rw [← z]
      exact congrArg Str.mk this
section
variable {G : Gx} {X : Cx} {W : WX}
theorem ops_repS : OpS G X W (binaryOp .Mult) repS := by
  intro pins s σ H x y v u Q ρ S d1 d2 I rx ry rl r1 r2 p
  unfold repS at p
  cases r1 with
  | str a =>
    cases r2 with
    | int k =>
      simp only at p
      by_cases h : 0 ≤ k ∧ k ≤ 1000 ∧ a.length ≤ 1000
      · rw [if_pos h] at p
        obtain ⟨h1, h2, h3⟩ := h
        obtain ⟨t, rfl⟩ := rx
        obtain ⟨t', rfl⟩ := ry
        have hlen : (⟨a.toArray⟩ : Str).length = a.length := by simp [Str.length]
        refine SB.mul ⟨?_, fun n1 n2 => ?_, fun n1 n2 => ?_⟩ fun t2 k2 => ?_
        · rw [decide_eq_false (by omega), decide_eq_false (by omega)]
          rfl
        · rw [hlen]
          have h4 : (1000 : Int) ≤ (2 ^ 63 - 1) / k := by
            rw [Int.le_ediv_iff_mul_le (by omega)]
            omega
          omega
        · rw [hlen]
          have h4 : a.length * k.toNat ≤ 1000 * 1000 := Nat.mul_le_mul h3 (by omega)
          unfold PySem.Builtin.Str.tooLong
          simp
          have : sizeLine = 16777216 := sizeLine_eq
          omega
        · rw [txt_mul h1]
          exact ⟨.str _, H, I.tok k2, ⟨_, rfl⟩, post_ok p rl (.str _)⟩
      · rw [if_neg h] at p
        exact p.elim
    | _ => exact p.elim
  | _ => exact p.elim
end
end L2.Mi

set_option Elab.async false
set_option linter.all false
set_option maxRecDepth 100000
set_option maxHeartbeats 1000000
set_option Elab.async false
set_option linter.all false
set_option maxRecDepth 100000
set_option maxHeartbeats 1000000
namespace L2.Mi
open PySem PySem.Spec PyProof.Rows
def strT : FN := fun xs S => match xs with
  | [.str l] => .ok (.str l) S
  | _ => .bad
section
variable {G : Gx} {X : Cx} {W : WX}
theorem fns_strT : FnS G X W (.type "str") strT := FnS.of SkE.call_str_str fun ρ S H ds xs Q E rl r p => by
  unfold strT at p
  match ds, r, p with
  | [.str l], .cons (.str _) .nil, p => exact ⟨_, rfl, post_ok p rl (.str l)⟩
end
end L2.Mi

set_option Elab.async false
set_option linter.all false
set_option maxRecDepth 100000
set_option maxHeartbeats 4000000
namespace L2.Mi
open PySem PySem.Spec PyProof.Rows
theorem SmO.ex {o : Option HO} (h : SmO o) : ∃ u, o = some u ∧ NTb u := by
  cases o with
  | none => exact h.elim
  | some u => exact ⟨u, rfl, h⟩
theorem NTb.ne {u : HO} (h : NTb u) (ps : Array Value) : u ≠ .tbl ps := by
  rintro rfl
  exact h
/-- less is wanted behind it -/
theorem PE.post {X : Cx} {e : Expr} {t : TE} (h : PE X e t) : PE X e (fun σ H Q => ∃ Q0 : VK, t σ H Q0 ∧ ∀ v H1, Q0 v H1 → Q v H1) :=
  ⟨fun pins s σ H Q I ⟨Q0, h0, k⟩ => wpAny_mono (h.run pins s σ H Q0 I h0) (fun _ _ ⟨x, H1, I1, r1, q1⟩ => ⟨x, H1, I1, r1, k _ _ q1⟩) fun _ _ z => z⟩
end L2.Mi

set_option Elab.async false
set_option linter.all false
set_option maxRecDepth 100000
set_option maxHeartbeats 4000000
set_option Elab.async false
set_option linter.all false
set_option maxRecDepth 100000
set_option maxHeartbeats 4000000
namespace L2.Mi
open PySem PySem.Spec PyProof.Rows
structure CkS (G : Gx) (X : Cx) : Prop where
  k : X.K = G.K
end L2.Mi

set_option Elab.async false
set_option linter.all false
set_option maxRecDepth 100000
set_option maxHeartbeats 4000000
namespace L2.Mi
open PySem
variable {sg : List Nat} {ks : List (List Nat)}
/-- a number of free digits, none of them 0 -/
structure Num (w : List Nat) : Prop where
  ne : w ≠ []
  dg : ∀ c ∈ w, 49 ≤ c ∧ c ≤ 57
theorem Num.ld {w : List Nat} (h : Num w) : ∀ c ∈ w, LD c = true := fun c hc => by
  obtain ⟨h1, h2⟩ := h.dg c hc
  have : c = 49 ∨ c = 50 ∨ c = 51 ∨ c = 52 ∨ c = 53 ∨ c = 54 ∨ c = 55 ∨ c = 56 ∨ c = 57 := by omega
  rcases this with rfl | rfl | rfl | rfl | rfl | rfl | rfl | rfl | rfl <;> decide
theorem Num.kind {w : List Nat} (h : Num w) (hk : ∀ k ∈ ks, ∀ c t, k = c :: t → 57 < c) (hn : ∀ k ∈ ks, k ≠ []) : kindS ks w = NUMB := by
  cases w with
  | nil => exact absurd rfl h.ne
  | cons c r =>
    obtain ⟨h1, h2⟩ := h.dg c (List.mem_cons_self ..)
    have e1 : (ks.any (· == c :: r)) = false := by
      rw [List.any_eq_false]
      intro k hk1 z
      have z := eq_of_beq z
      have := hk k hk1 c r z
      omega
    have e2 : decide (c ∈ LETS) = false := by
      rw [decide_eq_false_iff_not]
      unfold LETS
      simp only [List.mem_cons, List.not_mem_nil, or_false, not_or]
      omega
    have e3 : allD (c :: r) = true := by
      unfold allD
      rw [List.all_eq_true]
      intro x hx
      obtain ⟨g1, g2⟩ := h.dg x hx
      rw [decide_eq_true_eq]
      unfold DIGS
      simp only [List.mem_cons, List.not_mem_nil, or_false]
      omega
    have e4 : (c == 48) = false := by
      rw [beq_eq_false_iff_ne]
      omega
    unfold kindS
    simp only [e1, e2, e3, e4, Bool.false_eq_true, if_false, if_true, Bool.false_and]
end L2.Mi

set_option Elab.async false
set_option linter.all false
set_option maxRecDepth 100000
set_option maxHeartbeats 4000000
namespace L2.Mi
open PySem PySem.Spec PyProof.Rows
def matD (f : D → D → Store → Res D) (d : D) : List (Option D × MS) → MS
  | [] => sNext
  | (none, k) :: _ => k
  | (some c, k) :: r => fun σ S => match f d c S with
    | .ok (.bl true) S1 => k σ S1
    | .ok (.bl false) S1 => matD f d r σ S1
    | _ => .bad
structure SCs (G : Gx) (X : Cx) (W : WX) (f : D → D → Store → Res D) (cases : List MatchCase) (cs : List (Option D × MS)) : Prop where
  run : ∀ (first : Bool) (pins : List (Addr × Obj)) (s : Shared) (σ : St) (H : Hp) (v : Value) (x : V) (Dn : Ends) (ρ : Wd) (σs : En) (S : Store) (d : D), Inv X pins σ H s → RelV x v → Rl G ρ S H → RE G ρ H σs σ → RV G ρ H d x →
    PostS G ρ H (matD f d cs σs S) Dn W → wpAny (model X.prog X.w) X.A (matchCases cases X.env v first) (SP X pins Dn) X.xe s
end L2.Mi

set_option Elab.async false
set_option linter.all false
set_option maxRecDepth 100000
set_option maxHeartbeats 4000000
namespace L2.Mi
open PySem PySem.Spec PyProof.Rows
section
variable {G : Gx} {X : Cx} {W : WX} {o e : Expr} {es : List Expr} {m mo : ME} {ma r : MA} {p pos apos : Pos} {name : Str}
structure MethB (G : Gx) (X : Cx) (name : Str) (k c : Nat) (g : FN) : Prop where
  ex : ∃ C f, G.cls c = some C ∧ Cls X.K C ∧ BMeth X.K C name f ∧ Cal G X.prog X.w X.mg X.base k f g
end
section
variable {L : Lw} {K : Fg} {X : Cx} {C m : Str} {g : FN} {k : Nat}
def bmB (C m : Str) : Fm := .raw fun K => He.eqO (PySem.W.specialIn K (.ref (He.ma K (He.ga K C) m)) "__get__") (some (some (.builtin "function.__get__"))) && (decide (PySem.W.takesIn K (.ref (He.ma K (He.ga K C) m)) = some false) && PySem.W.fnIn K (He.ma K (He.ga K C) m))
end
end L2.Mi

set_option Elab.async false
set_option linter.all false
set_option maxRecDepth 100000
set_option maxHeartbeats 4000000
namespace L2.Mi
open PySem PySem.Spec PyProof.Rows
def eqKDs : List D → List D → Bool
  | [], [] => true
  | d :: ds, e :: es => eqKD d e && eqKDs ds es
  | _, _ => false
def eqKT : D → D → Bool
  | .tup ds, .tup es => eqKDs ds es
  | _, _ => false
def valT (kvs : List (D × D)) (k : D) : Option D := (kvs.find? fun q => eqKT q.1 k).map (·.2)
def putT (kvs : List (D × D)) (k v : D) : List (D × D) := if (kvs.any fun q => eqKT q.1 k) = true then kvs.map (fun q => if eqKT q.1 k then (q.1, v) else q) else kvs ++ [(k, v)]
section
variable {G : Gx} {ρ : Wd} {H : Hp}
theorem RTs.append : ∀ {a b : List (D × D)} {x y : List (List Key × V)}, RTs G ρ H a x → RTs G ρ H b y → RTs G ρ H (a ++ b) (x ++ y)
  | _, _, _, _, .nil, r => r
  | _, _, _, _, .cons h r t, s => .cons h r (RTs.append t s)
theorem RTs.len : ∀ {a : List (D × D)} {x : List (List Key × V)}, RTs G ρ H a x → a.length = x.length
  | _, _, .nil => rfl
  | _, _, .cons _ _ t => by simp [RTs.len t]
theorem RTs.mono {ρ' : Wd} {H' : Hp} (l : Le G ρ H ρ' H') {ds : List (D × D)} {vs : List (List Key × V)} (r : RTs G ρ H ds vs) : RTs G ρ' H' ds vs := r.move l.mv
end
section
variable {G : Gx} {ρ : Wd} {H : Hp} {S : Store} {X : Cx} {W : WX} {o e f i value : Expr} {mo me mf mv : ME} {pos pos' apos cpos : Pos}
theorem RTs.get : ∀ {kvs : List (D × D)} {kus : List (List Key × V)} {i : Nat} {q : D × D}, RTs G ρ H kvs kus → kvs[i]? = some q → ∃ k v, kus[i]? = some (k, v) ∧ keyT q.1 = some k
  | _, _, _, _, .nil, h => by simp at h
  | _, _, 0, _, .cons (k := k) (v := v) h r t, q => by simp at q; subst q; exact ⟨k, v, rfl, h⟩
  | _, _, i + 1, q, .cons h r t, z => by
    obtain ⟨k, v, h1, h2⟩ := RTs.get (i := i) (q := q) t (by simpa using z)
    exact ⟨k, v, by simpa using h1, h2⟩
end
end L2.Mi

set_option Elab.async false
set_option linter.all false
set_option maxRecDepth 100000
set_option maxHeartbeats 4000000
set_option Elab.async false
set_option linter.all false
set_option maxRecDepth 100000
set_option maxHeartbeats 4000000
set_option Elab.async false
set_option linter.all false
set_option maxRecDepth 100000
set_option maxHeartbeats 4000000
set_option Elab.async false
set_option linter.all false
set_option maxRecDepth 100000
set_option maxHeartbeats 4000000
set_option Elab.async false
set_option linter.all false
set_option maxRecDepth 100000
set_option maxHeartbeats 4000000
namespace L2.Mi
open PySem PySem.Spec PyProof.Rows
section
variable {G : Gx} {X : Cx} {W : WX} {ρ : Wd} {H : Hp} {S : Store}
theorem RVs.take {ds : List D} {xs : List V} : ∀ (n : Nat), RVs G ρ H ds xs → RVs G ρ H (ds.take n) (xs.take n)
  | 0, _ => by simp only [List.take_zero]; exact .nil
  | n + 1, .nil => by simp only [List.take_nil]; exact .nil
  | n + 1, .cons h t => by simp only [List.take_succ_cons]; exact .cons h (RVs.take n t)
theorem RVs.rep {ds : List D} {xs : List V} (r : RVs G ρ H ds xs) (n : Nat) : RVs G ρ H (List.replicate n ds).flatten (List.replicate n xs).flatten := by
  induction n with
  | zero => exact .nil
  | succ n ih => rw [List.replicate_succ, List.replicate_succ]; exact r.append ih
end
end L2.Mi

set_option Elab.async false
set_option linter.all false
set_option maxRecDepth 100000
set_option maxHeartbeats 4000000
namespace L2.Mi
open PySem PySem.Spec PyProof.Rows
structure Mk0 (K : PySem.W.Frag) (C : Addr) : Prop where
  makes : PySem.W.makesIn K C = true
  init : PySem.W.findIn K (.ref C) "__init__" = some (some (.builtin "object.__init__"))
section
variable {G : Gx} {X : Cx} {W : WX} {C : Addr} {c : Nat}
theorem shown {ρ1 ρ2 : Wd} {H1 H2 : Hp} {S1 S2 : Store} {Dl : Addr} {u0 u : HO} {o : Ob} (rl1 : Rl G ρ1 S1 H1) (hD : H1 Dl = none) (l3 : Le G ⟨ρ1.v, Dl :: ρ1.h⟩ (L2.upd H1 Dl u0) ρ2 H2) (rl2 : Rl G ρ2 S2 H2) (hDl : H2 Dl = some u) (ro : RO G ρ2 H2 o u) :
    Le G ρ1 H1 ⟨ρ2.v ++ [Dl], ρ1.h⟩ H2 ∧ Rl G ⟨ρ2.v ++ [Dl], ρ1.h⟩ (S2.push o) H2 ∧ RV G ⟨ρ2.v ++ [Dl], ρ1.h⟩ H2 (.ref S2.size) (.ref Dl) := by
  have hid : ρ2.h = Dl :: ρ1.h := l3.hid
  have hh1 : ∀ b, b ∈ ρ1.h → H1 b ≠ none := fun b hb => (rl1.hh b hb).2.ne
  have lo : Le G ρ1 H1 ⟨ρ2.v, ρ1.h⟩ H2 := Le.hide hD hh1 l3
  have e2 : ρ2 = ⟨ρ2.v, Dl :: ρ1.h⟩ := by rw [← hid]
  have nDv : Dl ∉ ρ2.v := (rl2.hh Dl (by rw [hid]; simp)).1
  have nDh : Dl ∉ ρ1.h := fun z => hh1 Dl z hD
  have mvs : Mv G ρ2 H2 ⟨ρ2.v ++ [Dl], ρ1.h⟩ H2 := by
    have z : Mv G ⟨ρ2.v, Dl :: ρ1.h⟩ H2 ⟨ρ2.v ++ [Dl], ρ1.h⟩ H2 := Mv.show
    rw [← e2] at z
    exact z
  refine ⟨⟨lo.pre.trans (List.prefix_append _ _), rfl, lo.tk, lo.kl, lo.kp, fun a na ha => ?_, lo.kh, lo.kz⟩, ⟨by simp [rl2.len, Store.size_push], ?_, fun a ha => ?_, fun j ob e => ?_, rl2.tb⟩, .ref (by rw [← rl2.len]; simp)⟩
  · have z := lo.ni a na ha
    have ne : a ≠ Dl := fun z => ha.ne (by rw [z]; exact hD)
    exact ⟨⟨by simp [z.1.1, ne], z.1.2⟩, z.2⟩
  · show (ρ2.v ++ [Dl]).Nodup
    rw [List.nodup_append]
    refine ⟨rl2.nd, by simp, fun a ha b hb => ?_⟩
    simp only [List.mem_singleton] at hb
    subst hb
    rintro rfl
    exact nDv ha
  · obtain ⟨h1, h2⟩ := rl2.hh a (by rw [hid]; exact List.mem_cons_of_mem _ ha)
    have ne : a ≠ Dl := fun z => nDh (by rw [← z]; exact ha)
    exact ⟨by simp [h1, ne], h2⟩
  · by_cases hj : j = S2.size
    · subst hj
      rw [Store.get_push_same] at e
      cases e
      exact ⟨Dl, u, by rw [← rl2.len]; simp, hDl, ro.move mvs⟩
    · rw [Store.get_push_ne hj] at e
      obtain ⟨a, w, h1, h2, h3⟩ := rl2.ob j ob e
      exact ⟨a, w, pre_get (List.prefix_append _ _) h1, h2, h3.move mvs⟩
end
end L2.Mi

set_option Elab.async false
set_option linter.all false
set_option maxRecDepth 100000
set_option maxHeartbeats 4000000
set_option Elab.async false
set_option linter.all false
set_option maxRecDepth 100000
set_option maxHeartbeats 4000000
set_option Elab.async false
set_option linter.all false
set_option maxRecDepth 100000
set_option maxHeartbeats 4000000
namespace L2.Mi
open PySem PySem.Spec PyProof.Rows
/-- a, b, .. = a list -/
def gLstT (gs : List MG) : MG := fun d σ S => match listAt S d with
  | some ds => gAll gs ds σ S
  | none => .bad
section
variable {G : Gx} {X : Cx} {W : WX} {pos : Pos}
theorem sg_lst {es : List Expr} {j : Nat} {gs : List MG} (c : Cc G X W) (h : SGs G X es gs) (hn : (assignEach es X.env).length = gs.length := by rfl) (hst : (assignEach es X.env).findIdx? (·.1) = none := by rfl) : SG G X (.Tuple es j pos) (gLstT gs) := by
  refine PG.weak (pg_lst (n := gs.length) c.calm h hn hst) fun v σ H Q ⟨ρ, σs, S, d, rl, re, rv, p⟩ => ?_
  unfold gLstT at p
  cases q0 : listAt S d with
  | none => simp only [q0] at p; exact p.elim
  | some ds =>
    simp only [q0] at p
    obtain ⟨a, xs, rfl, sq, hr⟩ := listAt_rel rl rv q0
    refine ⟨a, xs, rfl, by rw [c.k]; exact sq, ?_, ρ, σs, S, ds, rl, re, hr, p⟩
    cases q : gAll gs ds σs S with
    | ok σ1 S1 => rw [← hr.length]; exact gAll_len q
    | exc x S1 => rw [q] at p; exact p.elim
    | bad => rw [q] at p; exact p.elim
end
end L2.Mi

set_option Elab.async false
set_option linter.all false
set_option maxRecDepth 100000
set_option maxHeartbeats 4000000
set_option Elab.async false
set_option linter.all false
set_option maxRecDepth 100000
set_option maxHeartbeats 1000000
namespace L2.Mi
open PySem
/-- labels: of a Memory (mo .. wo), of a law's own player (pw .. en), others -/
inductive Lb where
  | mo (w : Nat) | mc (w : Nat) | mh (w : Nat) | ms (w l j : Nat) | mp (w l j : Nat) | ca (w : Nat) | wo (w : Nat)
  | pw | pt | ps | px | ph | pp (l j : Nat) | pe (l j : Nat) | pl (l j : Nat) | pb (l j : Nat) | en (l j i : Nat)
  | ot (n : Nat)
  deriving DecidableEq
abbrev LX := Lb → Option Ob
def up {L α : Type} [DecidableEq L] (X : L → α) (l : L) (o : α) : L → α := fun k => if k = l then o else X k
section
variable {L α : Type} [DecidableEq L] {X : L → α} {l k : L} {o o' : α}
@[simp] theorem up_same : up X l o l = o := by unfold up; rw [if_pos rfl]
theorem up_ne (h : k ≠ l) : up X l o k = X k := by unfold up; rw [if_neg h]
end
structure Rep (S : Store) (A : Lb → Nat) (X : LX) : Prop where
  get : ∀ l o, X l = some o → S.get (A l) = some o
  inj : ∀ l l' o o', X l = some o → X l' = some o' → A l = A l' → l = l'
namespace Rep
variable {S : Store} {A : Lb → Nat} {X : LX} {l : Lb} {o o' : Ob}
theorem lt (h : Rep S A X) (e : X l = some o) : A l < S.size := Store.get_lt (h.get l o e)
theorem set (h : Rep S A X) (e : X l = some o) (o' : Ob) : Rep (S.set (A l) o') A (up X l (some o')) := by
  refine ⟨fun k u z => ?_, fun k k' u u' z z' q => ?_⟩
  · by_cases hk : k = l
    · subst hk
      rw [up_same] at z
      cases z
      exact Store.get_set_same (h.lt e)
    · rw [up_ne hk] at z
      rw [Store.get_set_ne (fun q => hk (h.inj k l _ _ z e q.symm))]
      exact h.get k u z
  · have key : ∀ k u, up X l (some o') k = some u → ∃ v, X k = some v := fun k u z => by
      by_cases hk : k = l
      · subst hk; exact ⟨_, e⟩
      · rw [up_ne hk] at z; exact ⟨_, z⟩
    obtain ⟨v, hv⟩ := key k u z
    obtain ⟨v', hv'⟩ := key k' u' z'
    exact h.inj k k' v v' hv hv' q
theorem push (h : Rep S A X) : Rep (S.push o) A X := ⟨fun k u z => Store.get_push_some (h.get k u z), h.inj⟩
/-- a new thing, named -/
theorem new (h : Rep S A X) (e : X l = none) : Rep (S.push o) (up A l S.size) (up X l (some o)) := by
  have ne : ∀ k u, X k = some u → k ≠ l := fun k u z q => by subst q; rw [e] at z; cases z
  refine ⟨fun k u z => ?_, fun k k' u u' z z' q => ?_⟩
  · by_cases hk : k = l
    · subst hk
      rw [up_same] at z ⊢
      cases z
      exact Store.get_push_same
    · rw [up_ne hk] at z ⊢
      exact Store.get_push_some (h.get k u z)
  · by_cases hk : k = l
    · by_cases hk' : k' = l
      · rw [hk, hk']
      · rw [hk, up_same, up_ne hk'] at q
        rw [up_ne hk'] at z'
        have := h.lt z'
        omega
    · by_cases hk' : k' = l
      · rw [hk', up_same, up_ne hk] at q
        rw [up_ne hk] at z
        have := h.lt z
        omega
      · rw [up_ne hk, up_ne hk'] at q
        rw [up_ne hk] at z
        rw [up_ne hk'] at z'
        exact h.inj k k' _ _ z z' q
/-- less is known -/
theorem sub {Y : LX} (h : Rep S A X) (s : ∀ l o, Y l = some o → X l = some o) : Rep S A Y := ⟨fun l o e => h.get l o (s l o e), fun l l' o o' e e' q => h.inj l l' o o' (s l o e) (s l' o' e') q⟩
end Rep
end L2.Mi

set_option Elab.async false
set_option linter.all false
set_option maxRecDepth 100000
set_option maxHeartbeats 1000000
namespace L2.Mi.Me
open PySem
inductive Rle where
  | used | brought | second | tree
  deriving DecidableEq
structure Lev where
  sets : Nat
  ways : Nat
  rule : Rle
  thr : Bool
structure Ent where
  a : Int
  l : Int
  w : Bool
  n : Int
  deriving DecidableEq
abbrev Tg := Int × Int
inductive Ex where
  | non | sec (p : Nat) (lit : List Bool) | tree (b : List Bool)
structure SS where
  pl : List (Option Ent)
  ex : Ex
structure Cfg where
  line : Int
  lv : List Lev
  bs : List Int
structure MSt where
  st : Nat → Nat → SS
  sh : Nat → List Tg
  cnt : List (D × D)
  played : Int
def Ent.t (e : Ent) : Tg := (e.a, e.l)
def kBack (l : Nat) : D := .tup [.str [98, 97, 99, 107], .int (l : Int)]
def cntOf (c : List (D × D)) (k : D) : Int := match valT c k with
  | some (.int i) => i
  | _ => 0
def noteC (c : List (D × D)) (k : D) : List (D × D) := putT c k (.int (cntOf c k + 1))
namespace MSt
def put (M : MSt) (l j : Nat) (s : SS) : MSt := { M with st := fun a b => if a = l ∧ b = j then s else M.st a b }
end MSt
def Cfg.lev (C : Cfg) (l : Nat) : Lev := (C.lv[l]?).getD ⟨1, 1, .used, false⟩
def others (t : Tg) (s : List Tg) : List Tg := s.filter fun o => !(o.1 == t.1 && o.2 == t.2)
def ExOk (r : Rle) (ways : Nat) : Ex → Prop
  | .non => r = .used ∨ r = .brought
  | .sec p lit => r = .second ∧ p < ways ∧ lit.length = ways
  | .tree b => r = .tree ∧ b.length = ways - 1
structure LevOk (v : Lev) : Prop where
  s0 : 1 ≤ v.sets
  s1 : v.sets ≤ 8
  w0 : 1 ≤ v.ways
  w1 : v.ways ≤ 4
  tr : v.rule = .tree → v.ways ≠ 3
structure SOk (v : Lev) (s : SS) : Prop where
  ln : s.pl.length = v.ways
  ex : ExOk v.rule v.ways s.ex
structure CntOk (c : List (D × D)) : Prop where
  iv : ∀ q ∈ c, ∃ i, q.2 = .int i
  kt : ∀ q ∈ c, ∃ ks, keyT q.1 = some ks
  dk : c.Pairwise fun p q => eqKT p.1 q.1 = false
def TgOk (C : Cfg) (t : Tg) : Prop := ∃ b, L2.atI C.bs t.1 = some b
structure MOk (C : Cfg) (M : MSt) : Prop where
  s : ∀ l v j, C.lv[l]? = some v → j < v.sets → SOk v (M.st l j)
  h : ∀ l v, C.lv[l]? = some v → (M.sh l).length ≤ v.sets * v.ways
  c : CntOk M.cnt
  t : ∀ l v j e, C.lv[l]? = some v → j < v.sets → some e ∈ (M.st l j).pl → TgOk C e.t
structure CfgOk (C : Cfg) : Prop where
  n : C.lv.length ≤ 3
  v : ∀ v ∈ C.lv, LevOk v
def fresh (v : Lev) : SS := ⟨List.replicate v.ways none, match v.rule with | .second => .sec 0 (List.replicate v.ways false) | .tree => .tree (List.replicate (v.ways - 1) false) | _ => .non⟩
def MSt.empty (C : Cfg) (M : MSt) : MSt := { M with st := fun l _ => fresh (C.lev l), sh := fun _ => [] }
end L2.Mi.Me

set_option Elab.async false
set_option linter.all false
set_option maxRecDepth 100000
set_option maxHeartbeats 1000000
namespace L2.Mi
open PySem
section
variable {S S1 S2 : Store} {σ : En} {m mo mi : ME} {ma : MA}
theorem eVar_at {i : Nat} {d : D} (h : σ[i]? = some (some d)) : eVar i σ S = .ok d S := by
  unfold eVar
  simp only [h]
end
end L2.Mi
set_option Elab.async false
set_option linter.all false
set_option maxRecDepth 100000
set_option maxHeartbeats 1000000
set_option Elab.async false
set_option linter.all false
set_option maxRecDepth 100000
set_option maxHeartbeats 1000000
namespace L2.Mi.Me
open PySem
section
variable {v : Lev} {s : SS} {i : Nat} {C : Cfg} {M : MSt}
theorem MOk.put (K : MOk C M) {l j : Nat} {s : SS} (h : ∀ v, C.lv[l]? = some v → j < v.sets → SOk v s) (ht : ∀ e, some e ∈ s.pl → TgOk C e.t) : MOk C (M.put l j s) := by
  refine ⟨fun a v b h1 h2 => ?_, K.h, K.c, fun a v b e h1 h2 h3 => ?_⟩
  · show SOk v (if a = l ∧ b = j then s else M.st a b)
    split
    · rename_i e
      rw [e.1] at h1
      rw [e.2] at h2
      exact h v h1 h2
    · exact K.s a v b h1 h2
  · have h3 : some e ∈ (if a = l ∧ b = j then s else M.st a b).pl := h3
    split at h3
    · exact ht e h3
    · exact K.t a v b e h1 h2 h3
/-- a deeper level does its part -/
structure Deep (C : Cfg) (c : Nat) (f : Tg → Bool → Int → MSt → MSt) : Prop where
  ok : ∀ t w n M, TgOk C t → MOk C M → MOk C (f t w n M) ∧ (f t w n M).cnt.length ≤ M.cnt.length + c
end
end L2.Mi.Me
namespace L2.Mi.Me
open PySem
def bk (l : Nat) (c : List (D × D)) (e : Option Ent) : List (D × D) := match e with
  | some o => if o.w then noteC c (kBack l) else c
  | none => c
def fPl (l : Nat) (c : List (D × D)) (pl : List (Option Ent)) : List (D × D) := pl.foldl (bk l) c
def fSet (M : MSt) (l : Nat) (c : List (D × D)) (js : List Nat) : List (D × D) := js.foldl (fun c j => fPl l c (M.st l j).pl) c
def fAll (C : Cfg) (M : MSt) (c : List (D × D)) (ls : List Nat) : List (D × D) := ls.foldl (fun c l => fSet M l c (List.range (C.lev l).sets)) c
def flush (C : Cfg) (M : MSt) : MSt := MSt.empty C { M with cnt := fAll C M M.cnt (List.range C.lv.length) }
end L2.Mi.Me

set_option Elab.async false
set_option linter.all false
set_option maxRecDepth 100000
set_option maxHeartbeats 1000000
set_option Elab.async false
set_option linter.all false
set_option maxRecDepth 100000
set_option maxHeartbeats 1000000
namespace L2.Mi.Me
open PySem
structure PEn where
  e : Ent
  u : Int
  b : Int
structure PS where
  pl : List (Option PEn)
  ptr : Nat
  lit : List Bool
  bits : List Bool
structure PSt where
  st : Nat → Nat → PS
  sh : Nat → List Tg
  cnt : List (D × D)
  clock : Int
namespace PSt
def put (P : PSt) (l j : Nat) (s : PS) : PSt := { P with st := fun a b => if a = l ∧ b = j then s else P.st a b }
end PSt
def pFresh (v : Lev) : PS := ⟨List.replicate v.ways none, 0, List.replicate v.ways false, List.replicate 3 false⟩
def PSt.empty (C : Cfg) (P : PSt) : PSt := { P with st := fun l _ => pFresh (C.lev l), sh := fun _ => [] }
structure POk1 (v : Lev) (s : PS) : Prop where
  ln : s.pl.length = v.ways
  pt : s.ptr < v.ways
  lt : s.lit.length = v.ways
  bt : s.bits.length = 3
structure POk (C : Cfg) (P : PSt) : Prop where
  s : ∀ l v j, C.lv[l]? = some v → j < v.sets → POk1 v (P.st l j)
  h : ∀ l v, C.lv[l]? = some v → (P.sh l).length ≤ v.sets * v.ways
  c : CntOk P.cnt
  t : ∀ l v j e, C.lv[l]? = some v → j < v.sets → some e ∈ (P.st l j).pl → TgOk C e.e.t
end L2.Mi.Me

set_option Elab.async false
set_option linter.all false
set_option maxRecDepth 100000
set_option maxHeartbeats 1000000
set_option Elab.async false
set_option linter.all false
set_option maxRecDepth 100000
set_option maxHeartbeats 1000000
namespace L2.Mi
open PySem L2.Mi.Me
def isFree (pl : List (Option PEn)) (i : Nat) : Bool := match pl[i]? with
  | some none => true
  | _ => false
def fl (pl : List (Option PEn)) : List Nat := (List.range pl.length).filter (isFree pl)
end L2.Mi
set_option Elab.async false
set_option linter.all false
set_option maxRecDepth 100000
set_option maxHeartbeats 1000000
set_option Elab.async false
set_option linter.all false
set_option maxRecDepth 100000
set_option maxHeartbeats 1000000
namespace L2.Mi.Me
open PySem
abbrev fm (l : List (Option PEn)) : List PEn := l.filterMap id
def ents (l : List (Option PEn)) : List (Option Ent) := l.map fun x => x.map PEn.e
def pad (n : Nat) (o : List PEn) : List (Option Ent) := (o.map fun e => some e.e) ++ List.replicate (n - o.length) none
structure OrdS (τ : PEn → Int) (s : SS) (p : PS) (o : List PEn) : Prop where
  pm : o.Perm (fm p.pl)
  dec : o.Pairwise fun a b => τ b < τ a
  eq : s.pl = pad p.pl.length o
def SimS (r : Rle) (s : SS) (p : PS) : Prop := match r with
  | .used => ∃ o, OrdS PEn.u s p o
  | .brought => ∃ o, OrdS PEn.b s p o
  | .second => s.pl = ents p.pl ∧ s.ex = .sec p.ptr p.lit ∧ ∀ i : Nat, p.lit[i]? = some true → p.pl[i]? ≠ some none
  | .tree => s.pl = ents p.pl ∧ s.ex = .tree (p.bits.take (p.pl.length - 1))
def Dist (p : PS) : Prop := (fm p.pl).Pairwise fun a b => a.e.t ≠ b.e.t
def Old (k : Int) (p : PS) : Prop := ∀ e ∈ fm p.pl, e.u ≤ k ∧ e.b ≤ k
theorem fm_len (l : List (Option PEn)) : (fm l).length ≤ l.length := List.length_filterMap_le _ _
end L2.Mi.Me

set_option Elab.async false
set_option linter.all false
set_option maxRecDepth 100000
set_option maxHeartbeats 1000000
namespace L2.Mi.Me
open PySem
section
variable {τ : PEn → Int} {s : SS} {p : PS} {o : List PEn} {v : Lev} {t : Tg}
theorem OrdS.len (O : OrdS τ s p o) : o.length ≤ p.pl.length := by rw [O.pm.length_eq]; exact fm_len _
end
end L2.Mi.Me

set_option Elab.async false
set_option linter.all false
set_option maxRecDepth 100000
set_option maxHeartbeats 1000000
set_option Elab.async false
set_option linter.all false
set_option maxRecDepth 100000
set_option maxHeartbeats 1000000
namespace L2.Mi.Me
open PySem
structure Sim (C : Cfg) (M : MSt) (P : PSt) : Prop where
  s : ∀ l j, l < C.lv.length → j < (C.lev l).sets → SimS (C.lev l).rule (M.st l j) (P.st l j)
  d : ∀ l j, l < C.lv.length → j < (C.lev l).sets → Dist (P.st l j)
  o : ∀ l j, l < C.lv.length → j < (C.lev l).sets → Old P.clock (P.st l j)
  h : M.sh = P.sh
  c : M.cnt = P.cnt
theorem Old.mono {a b : Int} {p : PS} (h : Old a p) (hab : a ≤ b) : Old b p := fun e he => by
  have := h e he
  omega
section
variable {C : Cfg} {M : MSt} {P : PSt} {l j : Nat} {t : Tg} {w : Bool} {n : Int} {f : Tg → Bool → Int → MSt → MSt} {g : Tg → Bool → Int → PSt → PSt}
theorem Sim.put (Z : Sim C M P) {s : SS} {p : PS} (h : SimS (C.lev l).rule s p) (d : Dist p) (o : Old P.clock p) : Sim C (M.put l j s) (P.put l j p) := by
  refine ⟨fun a b h1 h2 => ?_, fun a b h1 h2 => ?_, fun a b h1 h2 => ?_, Z.h, Z.c⟩
  · show SimS _ (if a = l ∧ b = j then s else M.st a b) (if a = l ∧ b = j then p else P.st a b)
    split
    · rename_i e
      rw [e.1]
      exact h
    · exact Z.s a b h1 h2
  · show Dist (if a = l ∧ b = j then p else P.st a b)
    split
    · exact d
    · exact Z.d a b h1 h2
  · show Old P.clock (if a = l ∧ b = j then p else P.st a b)
    split
    · exact o
    · exact Z.o a b h1 h2
/-- how a deeper level runs in both -/
structure SimD (C : Cfg) (l : Nat) (f : Tg → Bool → Int → MSt → MSt) (g : Tg → Bool → Int → PSt → PSt) : Prop where
  sim : ∀ t w n M P, TgOk C t → POk C P → Sim C M P → Sim C (f t w n M) (g t w n P)
  pok : ∀ t w n P, TgOk C t → POk C P → POk C (g t w n P)
  fM : ∀ t w n M a j, a < l → (f t w n M).st a j = M.st a j
  fP : ∀ t w n P a j, a < l → (g t w n P).st a j = P.st a j
  ck : ∀ t w n P, P.clock ≤ (g t w n P).clock
  pl : ∀ t w n M, (f t w n M).played = M.played
end
end L2.Mi.Me

set_option Elab.async false
set_option linter.all false
set_option maxRecDepth 100000
set_option maxHeartbeats 1000000
namespace L2.Mi.Me
open PySem
def it (k : D) : Nat → List (D × D) → List (D × D)
  | 0, c => c
  | n + 1, c => it k n (noteC c k)
end L2.Mi.Me

set_option Elab.async false
set_option linter.all false
set_option maxRecDepth 100000
set_option maxHeartbeats 1000000
set_option Elab.async false
set_option linter.all false
set_option maxRecDepth 100000
set_option maxHeartbeats 1000000
namespace L2.Mi.Me
open PySem
def MB (B : Ent → Prop) (M : MSt) : Prop := ∀ l j e, some e ∈ (M.st l j).pl → B e
section
variable {C : Cfg} {M : MSt} {l j : Nat} {t : Tg} {w : Bool} {n : Int} {f : Tg → Bool → Int → MSt → MSt} {L : Tg → Prop} {N : Int → Prop}
theorem MB.put {B : Ent → Prop} (h : MB B M) {s : SS} (hs : ∀ e, some e ∈ s.pl → B e) : MB B (M.put l j s) := by
  intro a b e he
  have he : some e ∈ (if a = l ∧ b = j then s else M.st a b).pl := he
  split at he
  · exact hs e he
  · exact h a b e he
end
end L2.Mi.Me

set_option Elab.async false
set_option linter.all false
set_option maxRecDepth 100000
set_option maxHeartbeats 1000000
set_option Elab.async false
set_option linter.all false
set_option maxRecDepth 100000
set_option maxHeartbeats 1000000
set_option Elab.async false
set_option linter.all false
set_option maxRecDepth 100000
set_option maxHeartbeats 1000000
namespace L2.Mi.Me
open PySem L2.Mi
def fe (l : List (Option Ent)) : List Ent := l.filterMap id
end L2.Mi.Me
set_option Elab.async false
set_option linter.all false
set_option maxRecDepth 100000
set_option maxHeartbeats 2000000
set_option Elab.async false
set_option linter.all false
set_option maxRecDepth 100000
set_option maxHeartbeats 2000000
namespace L2.Mi
open PySem PySem.Spec PyProof.Rows
/-- a kept exception's class: made, its fields read -/
structure XA (K : Fg) (C fI : Addr) : Prop where
  o : OexA K C
  x : XfC K C
  i : PySem.W.findIn K (.ref C) "__init__" = some (some (.ref fI))
  t : PySem.W.typeIn K (.ref fI) = some (.type "function")
end L2.Mi

set_option Elab.async false
set_option linter.all false
set_option maxRecDepth 100000
set_option maxHeartbeats 2000000
set_option Elab.async false
set_option linter.all false
set_option maxRecDepth 100000
set_option maxHeartbeats 2000000
set_option Elab.async false
set_option linter.all false
set_option maxRecDepth 100000
set_option maxHeartbeats 2000000
namespace L2.Mi
open PySem PySem.Spec PyProof.Rows
/-- the class C's __init__ sets f, whatever C's base -/
structure XInitG (P : Program) (w : World) (K : Fg) (mg : Str → Option Value) (base : Heap) (C f s v : Str) : Prop where
  ex : ∃ fd, FnOk P w K mg base (L2.CX P w) 1 (He.ma K (He.ga K C) "__init__") fd [s, v] (spXG K f) ∧ Binds K fd [s, v] [] ∧ KBn K fd [s, v] 1 [v] (fun us ws => us ++ ws) (fun vs zs => vs ++ zs)
end L2.Mi

set_option Elab.async false
set_option linter.all false
set_option maxRecDepth 100000
set_option maxHeartbeats 2000000
namespace L2.Mi
open PySem PySem.Spec PyProof.Rows
/-- a pattern's parts: a constant, a name's slot -/
abbrev Pt := List (D ⊕ Nat)
/-- no match, or what is bound -/
def ptGo (f : D → D → Store → Res D) : Pt → List D → Store → Res (Option (List (Nat × D)))
  | [], [], S => .ok (some []) S
  | .inl c :: ps, d :: ds, S => (match f d c S with
    | .ok (.bl true) S1 => ptGo f ps ds S1
    | .ok (.bl false) S1 => .ok none S1
    | _ => .bad)
  | .inr i :: ps, d :: ds, S => (match ptGo f ps ds S with
    | .ok (some bs) S1 => .ok (some ((i, d) :: bs)) S1
    | .ok none S1 => .ok none S1
    | _ => .bad)
  | _, _, _ => .bad
def setBs : List (Nat × D) → En → En
  | [], σ => σ
  | (i, d) :: r, σ => setBs r (σ.set i (some d))
def matP (f : D → D → Store → Res D) (d : D) : List (Pt × MS) → MS
  | [] => sNext
  | (p, k) :: r => fun σ S => match tupD d with
    | some ds => if ds.length = p.length then (match ptGo f p ds S with
        | .ok (some bs) S1 => k (setBs bs σ) S1
        | .ok none S1 => matP f d r σ S1
        | _ => .bad) else matP f d r σ S
    | none => .bad
/-- what is bound, by names -/
inductive BRel (G : Gx) (X : Cx) (ρ : Wd) (H : Hp) : List (Nat × D) → List (Str × Value) → Prop
  | nil : BRel G X ρ H [] []
  | cons {i : Nat} {d : D} {x : Str} {v : V} {u : Value} {bs : List (Nat × D)} {ns : List (Str × Value)} : X.N[i]? = some x → Loc X.env.scope x → (X.fn x = true ∨ X.env.scope.names.lookup x = some .local) → RelV v u → RV G ρ H d v → BRel G X ρ H bs ns → BRel G X ρ H ((i, d) :: bs) ((x, u) :: ns)
def BRelO (G : Gx) (X : Cx) (ρ : Wd) (H : Hp) : Option (List (Nat × D)) → Option (List (Str × Value)) → Prop
  | none, none => True
  | some bs, some ns => BRel G X ρ H bs ns
  | _, _ => False
structure SPt (G : Gx) (X : Cx) (W : WX) (f : D → D → Store → Res D) (ps : List Pattern) (p : Pt) : Prop where
  len : ps.length = p.length
  run : ∀ (pins : List (Addr × Obj)) (s : Shared) (σ : St) (H : Hp) (us : List Value) (vs : List V) (ρ : Wd) (S S1 : Store) (ds : List D) (r : Option (List (Nat × D))) (Q : Option (List (Str × Value)) → Shared → Prop), Inv X pins σ H s → Vals vs us → Rl G ρ S H → RVs G ρ H ds vs → ptGo f p ds S = .ok r S1 →
    (∀ ρ1 H1 s1 ns, Inv X pins σ H1 s1 → Le G ρ H ρ1 H1 → Rl G ρ1 S1 H1 → BRelO G X ρ1 H1 r ns → Q ns s1) → wpAny (model X.prog X.w) X.A (matchEach ps X.env us) Q X.xe s
section
variable {G : Gx} {X : Cx} {W : WX} {f : D → D → Store → Res D} {ps : List Pattern} {p : Pt} {pos : Pos} {value : Expr} {c : D}
structure SPCs (G : Gx) (X : Cx) (W : WX) (f : D → D → Store → Res D) (cases : List MatchCase) (cs : List (Pt × MS)) : Prop where
  run : ∀ (first : Bool) (pins : List (Addr × Obj)) (s : Shared) (σ : St) (H : Hp) (v : Value) (x : V) (Dn : Ends) (ρ : Wd) (σs : En) (S : Store) (d : D), Inv X pins σ H s → RelV x v → Rl G ρ S H → RE G ρ H σs σ → RV G ρ H d x →
    PostS G ρ H (matP f d cs σs S) Dn W → wpAny (model X.prog X.w) X.A (matchCases cases X.env v first) (SP X pins Dn) X.xe s
end
end L2.Mi

set_option Elab.async false
set_option linter.all false
set_option maxRecDepth 100000
set_option maxHeartbeats 2000000
namespace L2.Mi
open PySem PySem.Spec PyProof.Rows
/-- ~x -/
def invF (ds : Disp) : D → Store → Res D := fun x S => match x with
  | .ref i => (match S.get i with
    | some (.ins c _) => (match ds c with | some g => g [.ref i] S | none => .bad)
    | _ => .bad)
  | _ => .bad
section
variable {G : Gx} {X : Cx} {W : WX}
theorem uns_inv {ds : Disp} (hd : ∀ c g, ds c = some g → UnClsS G X W "__invert__" c g) : UnS G X W (unaryOp .Invert) (invF ds) := by
  intro pins s σ H x v Q ρ S d I rx rl r1 p
  cases r1 with
  | @ref i a hi =>
    obtain rfl : v = Value.ref a := rx
    unfold invF at p
    cases q : S.get i with
    | none => simp only [q] at p; exact p.elim
    | some ob =>
      cases ob with
      | ins c fs =>
        simp only [q] at p
        cases q2 : ds c with
        | none => simp only [q2] at p; exact p.elim
        | some g =>
          simp only [q2] at p
          obtain ⟨C, f, hC, hs, hf, hfn⟩ := (hd c g q2).ex
          obtain ⟨C', dx, us, hC', hH⟩ := inst_at rl hi q
          rw [hC] at hC'
          cases hC'
          obtain ⟨mA, O, _⟩ := ins_get I.hok hH
          obtain ⟨od, J, _⟩ := O.look
          obtain ⟨mF, hF⟩ := I.fr
          exact PySem.W.ksp_inv hF I.ok.mod.kin J hs hf (hfn pins s σ H [.ref a] [.ref a] Q ρ S [.ref i] I (.cons rfl .nil) rl (.cons (.ref hi) .nil) p)
      | _ => simp only [q] at p; exact p.elim
  | _ => exact p.elim
end
end L2.Mi

set_option Elab.async false
set_option linter.all false
set_option maxRecDepth 100000
set_option maxHeartbeats 2000000
namespace L2.Mi
open PySem PySem.Spec PyProof.Rows
theorem push_update (h : Heap) (o : Obj) (f : Obj → Obj) : (h.push o).update h.objs.size f = h.push (f o) := by
  obtain ⟨objs, l⟩ := h
  show Heap.mk ((objs.push o).modify objs.size f) l = Heap.mk (objs.push (f o)) l
  congr 1
  apply Array.ext
  · simp
  · intro i h1 h2
    rw [Array.getElem_modify]
    by_cases e : i = objs.size
    · subst e
      simp
    · have hi : i < objs.size := by simp at h1; omega
      simp [Array.getElem_push, hi, Ne.symm e]
abbrev dO (es : List DictEntry) (n : Nat) : Obj := PySem.W.dictOf es n
/-- the fields of a fresh dict, set one by one -/
def fill (d : Addr) (ex : List (Str × Value)) : Sem PUnit := forIn ex PUnit.unit fun x _ => (nsSet d x.1 x.2 >>= fun _ => pure (ForInStep.yield PUnit.unit))
section
variable {P : Program} {w : World} {A : Around} {E : Value → Shared → Prop}
theorem wp_nsSet {hp : Heap} {g : Array GenState} {dr : Drawn} {tk : Nat} {os : OsState} {es : List DictEntry} {n : Nat} {k : Str} {v : Value} {Q : Unit → Shared → Prop} (hs : ∀ e ∈ es, e.key.isStr k = false) (hr : ∀ e ∈ es, e.refKey = false)
    (h : Q () ⟨hp.push (dO (es ++ [⟨PyData.keyHash w.params k, .str k tk, v⟩]) (n + 1)), g, dr, tk + 1, os⟩) : wpAny (model P w) A (nsSet hp.objs.size k v) Q E ⟨hp.push (dO es n), g, dr, tk, os⟩ := by
  have e1 : es.any (·.key.isStr k) = false := by
    cases q : es.any (·.key.isStr k) with
    | false => rfl
    | true =>
      obtain ⟨e, he, z⟩ := List.any_eq_true.mp q
      rw [hs e he] at z
      cases z
  have e2 : es.any (·.refKey) = false := by
    cases q : es.any (·.refKey) with
    | false => rfl
    | true =>
      obtain ⟨e, he, z⟩ := List.any_eq_true.mp q
      rw [hr e he] at z
      cases z
  have e : Obj.putName k (PyData.keyHash w.params k) (.str k tk) v (dO es n) = dO (es ++ [⟨PyData.keyHash w.params k, .str k tk, v⟩]) (n + 1) := by
    rw [PySem.W.putName_dict, PySem.W.putL_new hs]
    show PySem.W.dictOf _ (if es.any (·.key.isStr k) then n else n + 1) = _
    rw [e1, if_neg Bool.false_ne_true]
  have c : aRefKeyMayBeTheName k es.toArray = false := by
    rw [aRefKeyMayBeTheName_at, ← Array.any_toList, ← Array.any_toList]
    show (!es.any (·.key.isStr k) && es.any (·.refKey)) = false
    rw [e2, Bool.and_false]
  have D : (hp.push (dO es n)).get? hp.objs.size = some (dO es n) := Heap.get?_push_size _ rfl
  unfold nsSet
  refine wpAny_bind (wpAny_bind (wpAny_askSetting (wpAny_pure (wpAny_bind (wpAny_mkText (wpAny_bind (wpAny_loadPart D ?_)))))))
  dsimp only
  rw [c]
  refine wpAny_updatePart D ?_
  have z : (hp.push (dO es n)).update hp.objs.size (Obj.putName k (PyData.keyHash w.params k) (.str k tk) v) = hp.push (dO (es ++ [⟨PyData.keyHash w.params k, .str k tk, v⟩]) (n + 1)) := by rw [push_update, e]
  exact z ▸ h
theorem wp_fill {hp : Heap} {g : Array GenState} {dr : Drawn} {os : OsState} {Q : PUnit → Shared → Prop} : ∀ (ex : List (Str × Value)) (es : List DictEntry) (n tk : Nat), (∀ e ∈ es, ∀ x ∈ ex, e.key.isStr x.1 = false) → (∀ e ∈ es, e.refKey = false) → (ex.map (·.1)).Nodup →
    Q ⟨⟩ ⟨hp.push (dO (es ++ PySem.W.kwEs w.params tk ex) (n + ex.length)), g, dr, tk + ex.length, os⟩ → wpAny (model P w) A (fill hp.objs.size ex) Q E ⟨hp.push (dO es n), g, dr, tk, os⟩
  | [], es, n, tk, _, _, _, h => by
    unfold fill
    rw [List.forIn_nil]
    refine wpAny_pure ?_
    have e : es ++ PySem.W.kwEs w.params tk [] = es := List.append_nil es
    rw [e] at h
    exact h
  | x :: r, es, n, tk, hs, hr, hn, h => by
    obtain ⟨hn1, hn2⟩ := List.nodup_cons.mp (show (x.1 :: r.map (·.1)).Nodup from hn)
    unfold fill
    rw [List.forIn_cons]
    refine wpAny_bind (wpAny_bind (wp_nsSet (fun e he => hs e he x (.head _)) hr (wpAny_pure ?_)))
    show wpAny (model P w) A (fill hp.objs.size r) Q E _
    refine wp_fill r _ (n + 1) (tk + 1) (fun e he y hy => ?_) (fun e he => ?_) hn2 ?_
    · rcases List.mem_append.mp he with he | he
      · exact hs e he y (.tail _ hy)
      · obtain rfl := List.mem_singleton.mp he
        show (x.1 == y.1) = false
        exact beq_eq_false_iff_ne.mpr fun q => hn1 (by rw [q]; exact List.mem_map_of_mem hy)
    · rcases List.mem_append.mp he with he | he
      · exact hr e he
      · obtain rfl := List.mem_singleton.mp he
        rfl
    · have t1 : tk + 1 + r.length = tk + (r.length + 1) := by omega
      have t2 : n + 1 + r.length = n + (r.length + 1) := by omega
      rw [t1, t2, List.append_assoc]
      exact h
theorem mix_pairs : ∀ (ks : List Str) (us : List Value) (t : Nat), us.length = ks.length → Pairs (mixKind P w) (PySem.W.kwEs w.params t (ks.zip us)) ((ks.map (Sum.inr : Str → Key)).zip us)
  | [], [], _, _ => .nil
  | k :: ks, u :: us, t, h => .cons (keyIs_str k t) rfl (mix_pairs ks us (t + 1) (by simpa using h))
theorem kw_kv : ∀ (ks : List Str) {vs : List V} {us : List Value}, Vals vs us → KV ((ks.map (Sum.inr : Str → Key)).zip vs) ((ks.map (Sum.inr : Str → Key)).zip us)
  | [], _, _, _ => .nil
  | k :: ks, _, _, .nil => .nil
  | k :: ks, _, _, .cons r t => .cons ⟨rfl, r⟩ (kw_kv ks t)
theorem kw_obj {H : Hp} {hp : Heap} {ks : List Str} {vs : List V} {us : List Value} {tk n : Nat} (hb : sysModules < hp.objs.size) (r : Vals vs us) (hl : us.length = ks.length) (hz : ks.length ≤ 1000) (hn : ks.Nodup) :
    ObjOk P w H (hp.push (dO (PySem.W.kwEs w.params tk (ks.zip us)) n)) hp.objs.size (.dK ((ks.map (Sum.inr : Str → Key)).zip vs)) := by
  have hl2 : vs.length = ks.length := by rw [r.length, hl]
  have keys : ((ks.map (Sum.inr : Str → Key)).zip us).map (·.1) = ks.map Sum.inr := by
    rw [List.map_fst_zip]
    rw [List.length_map]
    omega
  refine ⟨?_, beq_eq_false_iff_ne.mpr (Ne.symm (Nat.ne_of_lt hb)), _, kw_kv ks r, _, (PySem.W.kwEs w.params tk (ks.zip us)).toArray, n, Heap.get?_push_size _ rfl, ⟨rfl, rfl, rfl⟩, rfl, fun e he => ?_, ?_, ?_⟩
  · rw [sizeLine_eq, List.length_zip, List.length_map]
    omega
  · obtain ⟨k, u, hk, hh⟩ := PySem.W.kwEs_key _ _ e (List.mem_toArray.mp he)
    exact ⟨.inr k, by rw [hk]; exact keyIs_str k u, hh⟩
  · exact mix_pairs ks us tk hl
  · rw [keys]
    exact List.Pairwise.map _ (fun a b h e => h (Sum.inr.inj e)) hn
end
/-- a def called by the keywords kn: its run takes the dict -/
def kwF (kn : List (List Nat)) (m : FN) : FN := fun ds S => if ds.length = kn.length then m [.ref S.size] (S.push (.dic false ((kn.map D.str).zip ds))) else .bad
abbrev kStr (kn : List (List Nat)) : List Str := kn.map fun l => ⟨l.toArray⟩
def CalK (G : Gx) (P : Program) (w : World) (mg : Str → Option Value) (base : Heap) (k : Nat) (f : Addr) (kn : List (List Nat)) (m : FN) : Prop :=
  ∀ (A : Around) (outer : List Env) (s : Shared) (H : Hp) (us : List Value) (vs : List V) (Q : VK) (E : XK), Room k A → Env0 P w G.K mg base A outer s H → Vals vs us → (∃ ρ S ds, Rl G ρ S H ∧ RVs G ρ H ds vs ∧ Post G ρ H (kwF kn m ds S) Q E) →
    codeAny (model P w) A (.call (.ref f) ⟨[], (kStr kn).zip us⟩) (CR (L2.CX P w) outer P w H s Q E) s
theorem kw_rks {G : Gx} {ρ : Wd} {H : Hp} : ∀ (kn : List (List Nat)) {ds : List D} {vs : List V}, RVs G ρ H ds vs → RKs G ρ H ((kn.map D.str).zip ds) (((kStr kn).map (Sum.inr : Str → Key)).zip vs)
  | [], _, _, _ => .nil
  | k :: ks, _, _, .nil => .nil
  | k :: ks, _, _, .cons r t => .cons rfl r (kw_rks ks t)
section
variable {G : Gx} {P : Program} {w : World} {mg : Str → Option Value} {base : Heap} {x qual pd : Str} {params : Arguments} {body : List Stmt} {scope : Scope} {f : Addr} {fd : FuncData} {N : List Str} {k : Nat} {ms : MS} {kn : List (List Nat)}
theorem calK_of (F : FunD G.K x qual params body scope [] [] f fd) (S : FnScope N [pd] scope) (hn : (kStr kn).Nodup) (hz : kn.length ≤ 1000)
    (hbind : ∀ (kV doc pm : Value) (an : Option Addr) (cdv ct : Value) (us : List Value), us.length = kn.length → bindArgs (PySem.W.fnOf x qual params body scope .none kV doc pm an cdv ct) ⟨[], (kStr kn).zip us⟩ =
      ((alloc ({ cls := .type "dict", data := .dict #[] } : Obj) : Sem Addr) >>= fun d => fill d ((kStr kn).zip us) >>= fun _ => pure [(pd, Value.ref d)]))
    (hb : ∀ (cdv : Value) (A : Around) (outer : List Env) (s : Shared) (H : Hp) (E : XK), Room k (A.deeper (envOfC qual scope s.heap.objs.size f cdv)) →
      Cc G (cxOf (L2.CX P w) P w G.K mg base N qual scope f cdv A outer s H E) (WF E) → SSs G (cxOf (L2.CX P w) P w G.K mg base N qual scope f cdv A outer s H E) (WF E) body ms) :
    CalK G P w mg base (k + 1) f kn (bodyRun N.length ms) := by
  intro A outer s H us vs Q E hr e0 r ⟨ρ, St, ds, rl, rv, p⟩
  obtain ⟨oc, od, dV, kV, doc, pm, an, cdv, ct, osl, rfl, lk, hcd, hD, hK⟩ := F.ex
  obtain rfl : dV = .none := by
    rcases hD with ⟨_, e⟩ | ⟨e, _⟩
    · exact e
    · exact absurd rfl e
  unfold kwF at p
  by_cases hl : ds.length = kn.length
  · rw [if_pos hl] at p
    have hlv : vs.length = kn.length := by rw [← rv.length]; exact hl
    have hlu : us.length = kn.length := by rw [← r.length]; exact hlv
    have hlk : us.length = (kStr kn).length := by rw [List.length_map]; exact hlu
    have hnone : H s.heap.objs.size = Option.none := e0.hok.fresh (Nat.le_refl _)
    have hkeys : ((kStr kn).zip us).map (·.1) = kStr kn := by
      rw [List.map_fst_zip]
      omega
    refine StX.run_bnd lk hcd S hr e0 (G := fun xs H2 => ∃ q, H q = Option.none ∧ xs = [V.ref q] ∧ H2 = upd H q (.dK (((kStr kn).map (Sum.inr : Str → Key)).zip vs))) (fun A' Ex Q' h => ?_) fun s2 H2 xs ⟨q, hq, ex, eH⟩ hr' => ?_
    · rw [hbind kV doc pm an cdv ct us hlu]
      obtain ⟨hp, g, dr, tk, os⟩ := s
      refine wpAny_bind (wpAny_alloc (wpAny_bind ?_))
      refine wp_fill (hp := hp) ((kStr kn).zip us) [] 0 tk (fun e he => absurd he List.not_mem_nil) (fun e he => absurd he List.not_mem_nil) (by rw [hkeys]; exact hn) (wpAny_pure ?_)
      have new : ObjOk P w (upd H hp.objs.size (.dK (((kStr kn).map (Sum.inr : Str → Key)).zip vs))) (hp.push (dO ([] ++ PySem.W.kwEs w.params tk ((kStr kn).zip us)) (0 + ((kStr kn).zip us).length))) hp.objs.size (.dK (((kStr kn).map (Sum.inr : Str → Key)).zip vs)) :=
        kw_obj (StX.env0_big e0) r hlk (by rw [List.length_map]; exact hz) hn
      have e1 := StX.env0_laid e0 new
      have un := StX.un_laid (fs := frs outer) (s := ⟨hp, g, dr, tk, os⟩) (o := dO ([] ++ PySem.W.kwEs w.params tk ((kStr kn).zip us)) (0 + ((kStr kn).zip us).length)) (u := .dK (((kStr kn).map (Sum.inr : Str → Key)).zip vs)) hnone
      have e2 : Env0 P w G.K mg base A outer ⟨hp.push (dO ([] ++ PySem.W.kwEs w.params tk ((kStr kn).zip us)) (0 + ((kStr kn).zip us).length)), g, dr, tk + ((kStr kn).zip us).length, os⟩ (upd H hp.objs.size (.dK (((kStr kn).map (Sum.inr : Str → Key)).zip vs))) :=
        ⟨e1.frames, e1.mod, e1.bs, e1.bsz, e1.funs, e1.frf, e1.hok, e1.bare⟩
      exact h _ _ [V.ref hp.objs.size] [Value.ref hp.objs.size] e2 un rfl (fun e s2 => StX.cxUp outer _ H _ _ E e s2 un (fun b o q => Heap.get?_push_of_some _ q) rfl) (.cons rfl .nil) rfl ⟨_, hnone, rfl, rfl⟩
    · subst ex eH
      have cc : Cc G (cxOf (L2.CX P w) P w G.K mg base N qual scope f cdv A outer s2 (upd H q (.dK (((kStr kn).map (Sum.inr : Str → Key)).zip vs))) E) (WF E) := ⟨rfl, takes_of rfl rfl rfl rfl, passes_of rfl, rfl, S.nd⟩
      have l : Le G ρ H (ρ.push q) (upd H q (.dK (((kStr kn).map (Sum.inr : Str → Key)).zip vs))) := Le.push hq
      have rl2 := rl.push hq (.dK (kw_rks kn rv))
      have p2 := PostR.le p l
      have rv2 : RVs G (ρ.push q) (upd H q (.dK (((kStr kn).map (Sum.inr : Str → Key)).zip vs))) [.ref St.size] [.ref q] := .cons (RV.new rl) .nil
      refine ⟨_, hb cdv A outer s2 _ E hr' cc, ρ.push q, _, St.push (.dic false ((kn.map D.str).zip ds)), rl2, re_start rv2, ?_⟩
      unfold bodyRun at p2
      cases q : ms (([D.ref St.size] : List D).map some ++ List.replicate (N.length - ([D.ref St.size] : List D).length) none) (St.push (.dic false ((kn.map D.str).zip ds))) with
      | rt d S1 => rw [q] at p2; exact p2
      | nx σ1 S1 => rw [q] at p2; exact fun ρ1 H1 σ' l1 rl1 re1 => p2 ρ1 H1 .non l1 rl1 .non
      | exc x σ1 S1 => rw [q] at p2; exact fun ρ1 H1 σ' c dd l1 rl1 re1 rx => p2 ρ1 H1 c dd l1 rl1 rx
      | bk σ1 S1 => rw [q] at p2; exact p2.elim
      | ct σ1 S1 => rw [q] at p2; exact p2.elim
      | bad => rw [q] at p2; exact p2.elim
  · rw [if_neg hl] at p
    exact p.elim
end
section
variable {G : Gx} {X : Cx} {W : WX} {k : Nat} {f : Addr} {x : Str} {kn : List (List Nat)} {m : FN} {ma : MA} {p pos : Pos}
theorem run_calK {pins : List (Addr × Obj)} {σ : St} {H : Hp} {s : Shared} {us : List Value} {vs : List V} {Q : VK} {ρ : Wd} {S : Store} {ds : List D} (cc : Cc G X W) (F : CalK G X.prog X.w X.mg X.base k f kn m) (hr : Room k X.A) (I : Inv X pins σ H s) (r : Vals vs us) (rl : Rl G ρ S H) (rv : RVs G ρ H ds vs)
    (p : Post G ρ H (kwF kn m ds S) Q (EW W σ)) : wpAny (model X.prog X.w) X.A (call (.ref f) [] ((kStr kn).zip us)) (EP X pins σ Q) X.xe s := by
  refine wpAny_call (codeAny_mono (F X.A X.stack s H us vs Q (EW W σ) hr (cc.k ▸ I.env0) r ⟨ρ, S, ds, rl, rv, p⟩) fun r s' hq => ?_)
  cases r with
  | error e => exact passAt cc.tk σ pins H s e s' I hq
  | ok fl =>
    cases fl with
    | ret u => exact I.after hq
    | next => exact False.elim hq
    | brk => exact False.elim hq
    | cont => exact False.elim hq
theorem fns_calK0 (cc : Cc G X W) (F : CalK G X.prog X.w X.mg X.base k f [] m) (hr : Room k X.A) : FnS G X W (.ref f) (kwF [] m) := by
  intro pins s σ H xs us Q ρ S es I r rl rv p
  have hes : es = [] := by
    unfold kwF at p
    by_cases h : es.length = 0
    · exact List.eq_nil_of_length_eq_zero h
    · rw [if_neg (show ¬ es.length = ([] : List (List Nat)).length from h)] at p
      exact p.elim
  subst hes
  cases rv
  cases r
  exact run_calK (kn := []) cc F hr I .nil rl .nil p
inductive SKs (G : Gx) (X : Cx) (W : WX) : List Keyword → List ME → Prop
  | nil : SKs G X W [] []
  | cons {e : Expr} {m : ME} {nm : Option Str} {kpos : Pos} {kws : List Keyword} {ms : List ME} : SE G X W e m → SKs G X W kws ms → SKs G X W (⟨nm, e, kpos⟩ :: kws) (m :: ms)
theorem sks_pk {kws : List Keyword} {ms : List ME} (h : SKs G X W kws ms) : PK X kws (tma G W (aList ms)) := by
  induction h with
  | nil => exact ⟨fun pos pins s σ H Q I ⟨ρ, σs, S, rl, re, p⟩ => pk_nil.run pos pins s σ H Q I (p ρ H [] Le.refl rl .nil)⟩
  | @cons e m nm kpos kws ms h1 _ ih =>
    refine ⟨fun pos pins s σ H Q I ⟨ρ, σs, S, rl, re, p⟩ => (pk_cons h1 ih).run pos pins s σ H Q I ?_⟩
    refine ⟨ρ, σs, S, rl, re, PostR.bind (R := RV G) (r := m σs S) p fun ρ1 H1 S1 d v l1 rl1 rv1 p1 => ?_⟩
    refine ⟨ρ1, σs, S1, rl1, re.mono l1, PostR.bind (R := RVs G) (r := aList ms σs S1) p1 fun ρ2 H2 S2 ds us l2 rl2 rv2 p2 => ?_⟩
    exact p2 ρ2 H2 _ Le.refl rl2 (.cons (rv1.mono l2) rv2)
def eKw (kn : List (List Nat)) (m : FN) (ms : List ME) : ME := eFn (kwF kn m) (aList ms)
theorem se_kw {kws : List Keyword} {ms : List ME} (cc : Cc G X W) (F : CalK G X.prog X.w X.mg X.base k f kn m) (hr : Room k X.A) (hg : Gl X x) (hm : X.mg x = some (.ref f)) (hk : PySem.W.keepIn X.K (.ref f) = true) (h : SKs G X W kws ms)
    (hks : (backToKw pos (keywordEach kws X.env)).filterMap (·.1) = kStr kn)
    (hall : (backToKw pos (keywordEach kws X.env)).all (·.1.isSome) = true := by rfl) (hdb : (x == ("__debug__" : Str)) = false := by decide)
    (hpl : ((backTo pos (starEach [] X.env)).any (·.1) || (backToKw pos (keywordEach kws X.env)).any (·.1.isNone)) = false := by rfl) :
    SE G X W (.Call (.Name x p) [] kws pos) (eKw kn m ms) := by
  refine ⟨fun pins s σ H Q I ⟨ρ, σs, S, rl, re, q⟩ => ?_⟩
  refine wpAny_Call_Name_kw (ld_glob I hg hm ?_ hdb)
  refine PySem.W.callWith_KW0 (h₀ := X.base) I.ok.mod.kin hk hall ?_ hpl
  refine thn ((sks_pk h).run pos pins s σ H (fun xs H1 => ∃ ρ1 S1 ds, Rl G ρ1 S1 H1 ∧ RVs G ρ1 H1 ds xs ∧ Post G ρ1 H1 (kwF kn m ds S1) Q (EW W σ)) I ⟨ρ, σs, S, rl, re, ?_⟩) ?_
  · refine PostR.bind (R := RVs G) (r := aList ms σs S) (f := kwF kn m) q fun ρ1 H1 S1 ds xs l1 rl1 rv1 p1 => ⟨ρ1, S1, ds, rl1, rv1, p1⟩
  · rintro ws s2 ⟨zs, H2, I2, rz, ρ1, S1, ds, rl1, rv1, p1⟩
    refine ⟨I2.kIn, ?_⟩
    rw [hks]
    exact run_calK cc F hr I2 rz rl1 rv1 p1
end
end L2.Mi

set_option Elab.async false
set_option linter.all false
set_option maxRecDepth 100000
set_option maxHeartbeats 2000000
set_option Elab.async false
set_option linter.all false
set_option maxRecDepth 100000
set_option maxHeartbeats 2000000
namespace L2.Mi
open PySem PySem.Spec PyProof.Rows
/-- as sLock; an exception goes out, the dict stays locked -/
def sLockX (i : Nat) (m : MS) : MS := fun σ S => match σ[i]? with
  | some (some (.ref n)) => (match S.get n with
    | some (.dic t kvs) => (match m σ (S.set n (.lck (.dic t kvs))) with
      | .nx σ1 S1 => .nx σ1 (S1.set n (.dic t kvs))
      | .rt d S1 => .rt d (S1.set n (.dic t kvs))
      | .exc x σ1 S1 => .exc x σ1 S1
      | _ => .bad)
    | _ => .bad)
  | _ => .bad
theorem ss_lockX {G : Gx} {X : Cx} {W : WX} {st : Stmt} {m : MS} (i : Nat) (h : SS G X W st m) : SS G X W st (sLockX i m) := by
  refine ss_of (ps_lock h) fun σ H Dn ρ σs S rl re p => ?_
  unfold sLockX at p
  cases q1 : σs[i]? with
  | none => simp only [q1] at p; exact p.elim
  | some o1 =>
    cases o1 with
    | none => simp only [q1] at p; exact p.elim
    | some d =>
      cases d with
      | ref n =>
        simp only [q1] at p
        cases q2 : S.get n with
        | none => simp only [q2] at p; exact p.elim
        | some ob =>
          cases ob with
          | dic t kvs =>
            simp only [q2] at p
            obtain ⟨v, _, rv⟩ := re.get i _ q1
            cases rv with
            | @ref _ a hi =>
              obtain ⟨u, hu, ro⟩ := rl.at hi q2
              obtain ⟨nt, mu, it⟩ := dic_ho ro
              refine ⟨a, u, hu, mu, fun od => ⟨ρ, σs, S.set n (.lck (.dic t kvs)), rl.set hi q2 hu nt (.lck ro), re.mono (rl.leUpd hi hu nt), ?_⟩⟩
              cases q3 : m σs (S.set n (.lck (.dic t kvs))) with
              | exc x σ1 S1 =>
                simp only [q3] at p
                exact fun ρ1 H1 w c dd l1 rl1 re1 rx => p ρ1 H1 w c dd ((rl.leUpd hi hu nt).trans l1) rl1 re1 rx
              | bad => simp only [q3] at p; exact p.elim
              | bk σ1 S1 => simp only [q3] at p; exact p.elim
              | ct σ1 S1 => simp only [q3] at p; exact p.elim
              | nx σ1 S1 =>
                simp only [q3] at p
                intro ρ1 H1 w l1 rl1 re1
                have k1 : H1 a = some (.frz od u) := l1.kz a od u upd_same
                have le := unlock_le rl hi hu nt l1
                have hi1 := pre_get l1.pre hi
                exact ⟨k1, p ρ1 (L2.upd H1 a u) w le (unlock_rl rl1 hi1 k1 (it od) (ro.mono le)) (re1.move (unlock_mv hi1 k1 (it od)))⟩
              | rt d S1 =>
                simp only [q3] at p
                intro ρ1 H1 w l1 rl1 rv1
                have k1 : H1 a = some (.frz od u) := l1.kz a od u upd_same
                have le := unlock_le rl hi hu nt l1
                have hi1 := pre_get l1.pre hi
                exact ⟨k1, p ρ1 (L2.upd H1 a u) w le (unlock_rl rl1 hi1 k1 (it od) (ro.mono le)) (rv1.move (unlock_mv hi1 k1 (it od)))⟩
          | _ => simp only [q2] at p; exact p.elim
      | _ => simp only [q1] at p; exact p.elim

theorem calK0 {G : Gx} {P : Program} {w : World} {mg : Str → Option Value} {base : Heap} {k : Nat} {f : Addr} {kn : List (List Nat)} : CalK G P w mg base k f kn (fun _ _ => .bad) := by
  intro A outer s H us vs Q E hr e0 r ⟨ρ, S, ds, rl, rv, p⟩
  unfold kwF at p
  split at p
  · exact p.elim
  · exact p.elim
end L2.Mi

set_option Elab.async false
set_option linter.all false
set_option maxRecDepth 100000
set_option maxHeartbeats 2000000
namespace GQ
open PySem PySem.SeqAt
open AutoSeq1 (wpAny_loadPart')
open MeetsSeq MeetsSeq2 MeetsSeq3 SeqRoads2
section
variable {prog : Program} {w : World} {A : Around} {R : Result → Shared → Prop}
/-- the items of two tuples are compared one by one, up to the first two that differ -/
theorem tuple_eqB (l b : Addr) (items items2 : Array Value) (n n2 : Nat) (dd dd2 : Option Addr) (sl sl2 : Array (Option Value)) (I : Nat → Shared → Prop)
    (turn : ∀ i (h1 : i < items.size) (h2 : i < items2.size) s, I i s → wpAny (model prog w) A.in1 (eqBool items[i] items2[i]) (fun r s' => if r then I (i + 1) s' else R (.ok (.ret (.bool false))) s') (fun e s' => R (.error e) s') s)
    (fin : ∀ i s, I i s → i = min items.size items2.size → R (.ok (.ret (.bool (items.size == items2.size)))) s) {s : Shared} (hl1 : s.heap.get? l = some { cls := .type "tuple", dict := dd, data := .seq items n, slots := sl }) (hb1 : s.heap.get? b = some { cls := .type "tuple", dict := dd2, data := .seq items2 n2, slots := sl2 }) (h : I 0 s) :
    wpAny (model prog w) A.in1 (Builtin.«tuple.__eq__» ⟨[.ref l, .ref b], []⟩) (FinOf prog w A R) (fun e s' => R (.error e) s') s := by
  have f2 := AutoSeq1.sub_tuple_tuple
  have hZ : (items.toList.zip items2.toList).length = min items.size items2.size := by simp
  have h0 := h
  obtain ⟨hp, g, d, tk, os⟩ := s
  wp_walk using wpAny_loadPart' hl1, wpAny_loadPart' hb1, wpAny_forIn_list _ (fun rest b s' => b.1 = none ∧ ∃ i, rest = (items.toList.zip items2.toList).drop i ∧ i ≤ min items.size items2.size ∧ I i s') _
  case turn =>
    rintro ⟨y, x⟩ rest b s' ⟨hb', i, hz, hi, hI⟩
    have hlt : i < (items.toList.zip items2.toList).length := by
      rcases Nat.lt_or_ge i (items.toList.zip items2.toList).length with h' | h'
      · exact h'
      · rw [List.drop_of_length_le h'] at hz; cases hz
    have h1 : i < items.size := by omega
    have h2 : i < items2.size := by omega
    rw [List.drop_eq_getElem_cons hlt] at hz
    injection hz with hyx hrest
    have hy : y = items[i] := by have := congrArg Prod.fst hyx; simpa using this
    have hx : x = items2[i] := by have := congrArg Prod.snd hyx; simpa using this
    subst hy hx
    refine wpAny_bind (wpAny_mono (turn i h1 h2 s' hI) (fun r s2 q2 => ?_) fun _ _ x => x)
    cases r with
    | true =>
      rw [if_pos rfl] at q2
      wp_walk
      exact ⟨rfl, i + 1, hrest, by omega, q2⟩
    | false =>
      rw [if_neg Bool.false_ne_true] at q2
      wp_walk
      simpa using q2
  case fin =>
    rintro ⟨b1, b2⟩ s' ⟨hb', i, hz, hi, hI⟩
    simp only at hb'
    subst hb'
    have hge : min items.size items2.size ≤ i := by
      rcases Nat.lt_or_ge i (items.toList.zip items2.toList).length with h' | h'
      · rw [List.drop_eq_getElem_cons h'] at hz; cases hz
      · omega
    have hR := fin i s' hI (by omega)
    wp_walk
    simpa [Builtin.Tuple.tupleCompareSizes] using hR
  case h =>
    exact ⟨rfl, 0, rfl, Nat.zero_le _, h0⟩
end
section
variable {prog : Program} {w : World} {A : Around} {E : Value → Shared → Prop} {s : Shared}
theorem rc_tupB {l b : Addr} {items items2 : Array Value} {Q : Value → Shared → Prop} (hu : A.units < cLine) (I : Nat → Shared → Prop)
    (hl : s.heap.IsTuple l items) (hb : s.heap.IsTuple b items2)
    (turn : ∀ i (h1 : i < items.size) (h2 : i < items2.size) s, I i s → wpAny (model prog w) A.in1 (eqBool items[i] items2[i]) (fun r s' => if r then I (i + 1) s' else Q (.bool false) s') E s)
    (fin : ∀ i s, I i s → i = min items.size items2.size → Q (.bool (items.size == items2.size)) s) (h : I 0 s) : wpAny (model prog w) A (richCompare .Eq (.ref l) (.ref b)) Q E s := by
  obtain ⟨⟨cls, dd, data, sl⟩, ho, hc, n, hd⟩ := id hl
  obtain ⟨⟨cls2, dd2, data2, sl2⟩, ho2, hc2, n2, hd2⟩ := id hb
  simp only at hc hd hc2 hd2
  subst hc hd hc2 hd2
  refine wpAny_richCompare_same_room (op := .Eq) ⟨_, ho, rfl⟩ ⟨_, ho2, rfl⟩ F.slot_tuple_eq (call_here F.slot_tuple_eq ⟨_, ho, rfl⟩ F.entry_tuple_eq (F.args_tuple_eq_2 _ _) ?_) hu
  refine tuple_eqB (R := wants (fun v s' => v ≠ .notImplemented ∧ Q v s') E) l b items items2 n n2 dd dd2 sl sl2 I (fun i h1 h2 s' q => wpAny_mono (turn i h1 h2 s' q) (fun r s2 z => ?_) fun _ _ x => x) (fun i s' q e => ⟨(fun x => nomatch x), fin i s' q e⟩) ho ho2 h
  cases r with
  | true => exact z
  | false => exact ⟨(fun x => nomatch x), z⟩
end
end GQ
namespace L2.Mi
open PySem PySem.Spec PyProof.Rows
/-- two items: flat ones, two instances -/
def eqIt (own : Nat → Nat → Store → Res D) (x y : D) (S : Store) : Res Bool := match x, y with
  | .ref i, .ref j => if i = j then .ok true S else (match own i j S with | .ok (.bl b) S1 => .ok b S1 | _ => .bad)
  | _, _ => if flatD x && flatD y then .ok (eqD x y) S else .bad
def eqIts (own : Nat → Nat → Store → Res D) : List D → List D → Store → Res Bool
  | x :: xs, y :: ys, S => (match eqIt own x y S with
    | .ok true S1 => eqIts own xs ys S1
    | .ok false S1 => .ok false S1
    | _ => .bad)
  | [], [], S => .ok true S
  | _, _, S => .ok false S
/-- an instance's own == -/
def ownI (ds : Disp) (i j : Nat) (S : Store) : Res D := match S.get i, S.get j with
  | some (.ins c _), some (.ins c2 _) => if c2 = c then (match ds c with | some g => g [.ref i, .ref j] S | none => .bad) else .bad
  | _, _ => .bad
def eqTF (ds : Disp) : D → D → Store → Res D := fun x y S => match tupD x, tupD y with
  | some xs, some ys => (match eqIts (ownI ds) xs ys S with | .ok b S1 => .ok (.bl b) S1 | _ => .bad)
  | _, _ => .bad
structure EqK (G : Gx) (X : Cx) (k c : Nat) (g : FN) : Prop where
  ex : ∃ C f, G.cls c = some C ∧ PySem.W.findIn X.K (.ref C) "__eq__" = some (some (.ref f)) ∧ PySem.W.isFn X.K (.ref f) = true ∧ Cal G X.prog X.w X.mg X.base k f g
section
variable {G : Gx} {X : Cx} {W : WX} {k : Nat} {ds : Disp}
theorem env0_at {A : Around} {pins : List (Addr × Obj)} {σ : St} {H : Hp} {s : Shared} (fr : A.frames = X.A.frames) (I : Inv X pins σ H s) : Env0 X.prog X.w X.K X.mg X.base A X.stack s H := by
  have e := I.env0
  exact ⟨by rw [fr]; exact e.frames, e.mod, e.bs, e.bsz, e.funs, e.frf, e.hok, e.bare⟩
/-- two items compared inside a builtin -/
theorem it_run (cc : Cc G X W) (hd : ∀ c g, ds c = some g → EqK G X k c g) {A : Around} (sb : Sub X k A) {pins : List (Addr × Obj)} {s : Shared} {σ : St} {H : Hp} {x y : V} {u v : Value} {ρ : Wd} {S S1 : Store} {d1 d2 : D} {r : Bool} (I : Inv X pins σ H s) (rx : RelV x u) (ry : RelV y v) (rl : Rl G ρ S H) (r1 : RV G ρ H d1 x) (r2 : RV G ρ H d2 y)
    (e : eqIt (ownI ds) d1 d2 S = .ok r S1) : wpAny (model X.prog X.w) A (eqBool u v) (fun r' s' => r' = r ∧ ∃ ρ1 H1, Inv X pins σ H1 s' ∧ Le G ρ H ρ1 H1 ∧ Rl G ρ1 S1 H1) X.xe s := by
  have flat : ∀ {d1 d2 : D} {x y : V}, RV G ρ H d1 x → RV G ρ H d2 y → RelV x u → RelV y v → (if flatD d1 && flatD d2 then Res.ok (eqD d1 d2) S else .bad) = .ok r S1 → wpAny (model X.prog X.w) A (eqBool u v) (fun r' s' => r' = r ∧ ∃ ρ1 H1, Inv X pins σ H1 s' ∧ Le G ρ H ρ1 H1 ∧ Rl G ρ1 S1 H1) X.xe s := fun {d1 d2 x y} r1 r2 rx ry e => by
    by_cases hf : (flatD d1 && flatD d2) = true
    · rw [if_pos hf] at e
      obtain ⟨f1, f2⟩ := ba hf
      have q := eqAt_V (A := A) (s := s) rx ry (flat_rel r1 f1) (flat_rel r2 f2)
      rw [eq_rel r1 r2 f1 f2] at q
      cases e
      exact q X.prog X.w X.xe _ ⟨rfl, ρ, H, I, Le.refl, rl⟩
    · rw [if_neg hf] at e
      cases e
  have r1c := r1
  have r2c := r2
  cases r1 with
  | @ref i a hi =>
    cases r2 with
    | @ref j b hj =>
      have e : (if i = j then Res.ok true S else (match ownI ds i j S with | .ok (.bl b) S1 => .ok b S1 | _ => .bad)) = .ok r S1 := e
      obtain rfl : u = Value.ref a := rx
      obtain rfl : v = Value.ref b := ry
      by_cases hij : i = j
      · rw [if_pos hij] at e
        cases e
        subst hij
        have hab : a = b := by rw [hi] at hj; exact Option.some.inj hj
        subst hab
        exact SeqAt.EqAt.same (A := A) (s := s) (.ref a) X.prog X.w X.xe _ ⟨rfl, ρ, H, I, Le.refl, rl⟩
      · rw [if_neg hij] at e
        have hne : a ≠ b := fun z => hij (nd_get rl.nd hi (z ▸ hj))
        cases ho : ownI ds i j S with
        | bad => rw [ho] at e; cases e
        | exc _ _ => rw [ho] at e; cases e
        | ok z S2 =>
          rw [ho] at e
          cases z with
          | bl bz =>
            cases e
            unfold ownI at ho
            cases q1 : S.get i with
            | none => rw [q1] at ho; cases ho
            | some o1 =>
              cases o1 with
              | ins c fs =>
                cases q2 : S.get j with
                | none => rw [q1, q2] at ho; cases ho
                | some o2 =>
                  cases o2 with
                  | ins c2 fs2 =>
                    rw [q1, q2] at ho
                    simp only at ho
                    by_cases hc : c2 = c
                    · rw [if_pos hc] at ho
                      subst hc
                      cases q3 : ds c2 with
                      | none => rw [q3] at ho; cases ho
                      | some g =>
                        rw [q3] at ho
                        have ho : g [.ref i, .ref j] S = .ok (.bl r) S1 := ho
                        obtain ⟨C, f, hC, hs, hf, F⟩ := (hd c2 g q3).ex
                        obtain ⟨C1, dx, us, hC1, hH1⟩ := inst_at rl hi q1
                        obtain ⟨C2, dy, ws, hC2, hH2⟩ := inst_at rl hj q2
                        rw [hC] at hC1 hC2
                        cases hC1
                        cases hC2
                        obtain ⟨mA, J, _⟩ := ins_get I.hok hH1
                        obtain ⟨mB, J', _⟩ := ins_get I.hok hH2
                        obtain ⟨od, J, _⟩ := J.look
                        obtain ⟨od', J', _⟩ := J'.look
                        obtain ⟨m, hF⟩ := I.fr
                        refine GQ.eqBool_refG hne ?_
                        refine PySem.W.cmp_K (op := .Eq) (tb := .ref C) sb.room.units0 hF I.ok.mod.kin J J'.type (by simp [PySem.W.notFirst]) hs hf ?_
                        have hpost : Post G ρ H (g [.ref i, .ref j] S) (fun v H' => v = .bl r ∧ ∃ ρ1, Le G ρ H ρ1 H' ∧ Rl G ρ1 S1 H') (fun _ _ _ => False) := by
                          rw [ho]
                          intro ρ1 H1 w l1 rl1 rw1
                          cases rw1
                          exact ⟨rfl, ρ1, l1, rl1⟩
                        have e0 : Env0 X.prog X.w G.K X.mg X.base A X.stack s H := cc.k ▸ env0_at sb.fr I
                        refine wpAny_call (codeAny_mono (F A X.stack s H [.ref a, .ref b] [.ref a, .ref b] _ (fun _ _ _ => False) sb.room e0 (.cons rfl (.cons rfl .nil)) ⟨ρ, S, _, rl, .cons (.ref hi) (.cons (.ref hj) .nil), hpost⟩) fun rr s' hq => ?_)
                        cases rr with
                        | error er => exact passFalse pins σ H s er s' I hq
                        | ok fl =>
                          cases fl with
                          | ret w =>
                            obtain ⟨z, H', I', rz, ez, ρ1, l1, rl1⟩ := I.after hq
                            subst ez
                            obtain rfl : w = Value.bool r := rz
                            exact ⟨r, rfl, rfl, ρ1, H', I', l1, rl1⟩
                          | next => exact False.elim hq
                          | brk => exact False.elim hq
                          | cont => exact False.elim hq
                    · rw [if_neg hc] at ho
                      cases ho
                  | _ => rw [q1, q2] at ho; cases ho
              | _ => rw [q1] at ho; cases ho
          | _ => cases e
    | _ => exact flat r1c r2c rx ry e
  | _ => exact flat r1c r2c rx ry e
end
end L2.Mi

set_option Elab.async false
set_option linter.all false
set_option maxRecDepth 100000
set_option maxHeartbeats 2000000
namespace L2.Mi
open PySem PySem.Spec PyProof.Rows
section
variable {G : Gx} {X : Cx} {W : WX} {k : Nat} {ds : Disp}
theorem RVs.at {ρ : Wd} {H : Hp} : ∀ {es : List D} {vs : List V} {i : Nat} (h1 : i < es.length) (h2 : i < vs.length), RVs G ρ H es vs → RV G ρ H es[i] vs[i]
  | _, _, 0, _, _, .cons r _ => r
  | _, _, i + 1, h1, h2, .cons _ t => RVs.at (i := i) (by simpa using h1) (by simpa using h2) t
  | _, _, _, h1, _, .nil => absurd h1 (by simp)
theorem ops_eqT (cc : Cc G X W) (hr : Room (k + 1) X.A) (hd : ∀ c g, ds c = some g → EqK G X k c g) : OpS G X W (compareOp .Eq) (eqTF ds) := by
  intro pins s σ H x y v u Q ρ S d1 d2 I rx ry rl r1 r2 p
  unfold eqTF at p
  cases q1 : tupD d1 with
  | none => simp only [q1] at p; exact p.elim
  | some xs =>
    cases q2 : tupD d2 with
    | none => simp only [q1, q2] at p; exact p.elim
    | some ys =>
      simp only [q1, q2] at p
      obtain ⟨a, vs, rfl, sq1, rv1⟩ := tupD_rel r1 q1
      obtain ⟨b, ws, rfl, sq2, rv2⟩ := tupD_rel r2 q2
      obtain rfl : v = Value.ref a := rx
      obtain rfl : u = Value.ref b := ry
      cases e : eqIts (ownI ds) xs ys S with
      | bad => rw [e] at p; exact p.elim
      | exc _ _ => rw [e] at p; exact p.elim
      | ok r S1 =>
        rw [e] at p
        have p : Post G ρ H (.ok (.bl r) S1) Q (EW W σ) := p
        obtain ⟨its, t1, e1, z1⟩ := I.tuple (by rw [cc.k]; exact sq1)
        obtain ⟨its2, t2, e2, z2⟩ := I.tuple (by rw [cc.k]; exact sq2)
        have n1 : its.length = xs.length := by rw [← t1.length, ← rv1.length]
        have n2 : its2.length = ys.length := by rw [← t2.length, ← rv2.length]
        have fin : ∀ {s' : Shared} {ρ1 : Wd} {H1 : Hp}, Inv X pins σ H1 s' → Le G ρ H ρ1 H1 → Rl G ρ1 S1 H1 → EP X pins σ Q (.bool r) s' := fun {s' ρ1 H1} I1 l1 rl1 => ⟨.bl r, H1, I1, rfl, p ρ1 H1 _ l1 rl1 (.bl r)⟩
        refine GQ.rc_tupB (A := X.A) hr.units0 (fun i s' => ∃ ρ1 H1 S2, Inv X pins σ H1 s' ∧ Le G ρ H ρ1 H1 ∧ Rl G ρ1 S2 H1 ∧ eqIts (ownI ds) (xs.drop i) (ys.drop i) S2 = .ok r S1) e1 e2 ?_ ?_ ⟨ρ, H, S, I, Le.refl, rl, e⟩
        · rintro i h1 h2 s' ⟨ρ1, H1, S2, I1, l1, rl1, e3⟩
          have h1 : i < its.length := by simpa using h1
          have h2 : i < its2.length := by simpa using h2
          have k1 : i < xs.length := by omega
          have k2 : i < ys.length := by omega
          rw [List.drop_eq_getElem_cons k1, List.drop_eq_getElem_cons k2] at e3
          unfold eqIts at e3
          have g1 : i < vs.length := by rw [t1.length]; exact h1
          have g2 : i < ws.length := by rw [t2.length]; exact h2
          obtain ⟨u1, hu1, ru1⟩ := t1.get (List.getElem?_eq_getElem g1)
          obtain ⟨u2, hu2, ru2⟩ := t2.get (List.getElem?_eq_getElem g2)
          rw [List.getElem?_eq_getElem h1] at hu1
          rw [List.getElem?_eq_getElem h2] at hu2
          cases hu1
          cases hu2
          have sb : Sub X k X.A.in1 := Sub.in1 ⟨hr, rfl⟩
          cases q : eqIt (ownI ds) xs[i] ys[i] S2 with
          | bad => rw [q] at e3; cases e3
          | exc _ _ => rw [q] at e3; cases e3
          | ok r' S3 =>
            rw [q] at e3
            have w := it_run cc hd sb I1 ru1 ru2 rl1 ((RVs.at k1 g1 rv1).mono l1) ((RVs.at k2 g2 rv2).mono l1) q
            have w2 : wpAny (model X.prog X.w) X.A.in1 (eqBool its[i] its2[i]) (fun r2 s2 => if r2 then (∃ ρ1 H1 S2, Inv X pins σ H1 s2 ∧ Le G ρ H ρ1 H1 ∧ Rl G ρ1 S2 H1 ∧ eqIts (ownI ds) (xs.drop (i + 1)) (ys.drop (i + 1)) S2 = .ok r S1) else EP X pins σ Q (.bool false) s2) X.xe s' := by
              refine wpAny_mono w (fun r2 s2 ⟨hr2, ρ2, H2, I2, l2, rl2⟩ => ?_) fun _ _ z => z
              subst hr2
              cases r2 with
              | true =>
                rw [if_pos rfl]
                exact ⟨ρ2, H2, S3, I2, l1.trans l2, rl2, e3⟩
              | false =>
                rw [if_neg Bool.false_ne_true]
                cases e3
                exact fin I2 (l1.trans l2) rl2
            simpa using w2
        · rintro i s' ⟨ρ1, H1, S2, I1, l1, rl1, e3⟩ hi
          simp only [List.size_toArray, n1, n2] at hi ⊢
          have hz : r = (xs.length == ys.length) ∧ S2 = S1 := by
            rcases Nat.lt_trichotomy xs.length ys.length with h | h | h
            · have hx : xs.drop i = [] := List.drop_eq_nil_of_le (by omega)
              have hy : i < ys.length := by omega
              rw [hx, List.drop_eq_getElem_cons hy] at e3
              have e4 : Res.ok false S2 = .ok r S1 := e3
              cases e4
              exact ⟨by simp; omega, rfl⟩
            · have hx : xs.drop i = [] := List.drop_eq_nil_of_le (by omega)
              have hy : ys.drop i = [] := List.drop_eq_nil_of_le (by omega)
              rw [hx, hy] at e3
              have e4 : Res.ok true S2 = .ok r S1 := e3
              cases e4
              exact ⟨by simp [h], rfl⟩
            · have hx : i < xs.length := by omega
              have hy : ys.drop i = [] := List.drop_eq_nil_of_le (by omega)
              rw [hy, List.drop_eq_getElem_cons hx] at e3
              have e4 : Res.ok false S2 = .ok r S1 := e3
              cases e4
              exact ⟨by simp; omega, rfl⟩
          obtain ⟨h1, rfl⟩ := hz
          rw [← h1]
          exact fin I1 l1 rl1
end
section
variable {L : Lw} {K : Fg} {X : Cx} {C : Str} {g : FN} {k : Nat}
theorem eqK (c : L.Says K) (ci i : Nat) (hc : L.cls[ci]? = some C) (h : L.fa[i]? = some (.un C "__eq__")) (F : Cal (L.gx K c) X.prog X.w X.mg X.base k (He.ma K (He.ga K C) "__eq__") g) (e : X.K = K := by rfl) : EqK (L.gx K c) X k ci g := by
  obtain ⟨h1, h2⟩ := fnAt_ok (c.fact i h)
  exact ⟨_, _, cls_of c ci hc, by rw [e]; exact h1, by rw [e]; exact h2, F⟩
end
end L2.Mi

set_option Elab.async false
set_option linter.all false
set_option maxRecDepth 100000
set_option maxHeartbeats 2000000
namespace L2.Mi
open PySem PySem.Spec PyProof.Rows
theorem HDk.at {hd : List (Str × List Str)} {K : Fg} {w : World} (h : HDk hd K w) (i : Nat) {x : Str} {ks : List Str} (hi : hd[i]? = some (x, ks)) : hshOf K x = hshV w ks := by
  have e : (hd.map fun p => hshOf K p.1)[i]? = (hd.map fun p => hshV w p.2)[i]? := by rw [show (hd.map fun p => hshOf K p.1) = hd.map fun p => hshV w p.2 from h]
  rw [List.getElem?_map, List.getElem?_map, hi] at e
  exact Option.some.inj e
theorem keysLit_of {w : World} : ∀ {es : List DictEntry} {ks : List Str}, es.all strK = true → es.map hshE = hshV w ks → PySem.W.KeysLit w.params es
  | [], _, _, _ => trivial
  | e :: es, [], _, h => by cases h
  | e :: es, k :: ks, ha, h => by
    rw [List.all_cons, Bool.and_eq_true] at ha
    obtain ⟨h1, h2⟩ := List.cons.inj (show hshE e :: es.map hshE = (k, PyData.keyHash w.params k) :: hshV w ks from h)
    refine ⟨?_, keysLit_of ha.2 h2⟩
    have hs := ha.1
    unfold strK at hs
    split at hs
    · rename_i y t hk
      unfold hshE at h1
      rw [hk] at h1
      obtain ⟨e1, e2⟩ := Prod.mk.inj h1
      exact ⟨_, t, hk, by rw [e2, e1]⟩
    · cases hs
theorem kdB_ok {x : Str} {t : KdT} {K : Fg} {w : World} {ks : List Str} (h : kdB x t K = true) (hh : hshOf K x = hshV w ks) : (∃ es n, L2.KDict K w (He.ga K x) es n) ∧ PySem.W.nsIn K mainGlobals x = some (some (.ref (He.ga K x))) ∧
    ∀ p ∈ t, (p.2 = none ∧ PySem.W.nsIn K (He.ga K x) ⟨p.1.toArray⟩ = some none) ∨ ∃ d u, p.2 = some d ∧ PySem.W.nsIn K (He.ga K x) ⟨p.1.toArray⟩ = some (some u) ∧ kvB K 8 d u = true := by
  obtain ⟨h1, h⟩ := ba h
  obtain ⟨h2, h⟩ := ba h
  obtain ⟨h3, h4⟩ := ba h
  refine ⟨?_, He.eqO_ok h1, fun p hp => ?_⟩
  · split at h3
    · rename_i c es n sl hl
      obtain ⟨a1, a2⟩ := ba h3
      obtain ⟨a2, a3⟩ := ba a2
      have b1 := of_decide_eq_true a1
      have b2 : sl = #[] := by simpa using a2
      subst b1 b2
      refine ⟨es, n, hl, keysLit_of (ks := ks) a3 ?_, by simpa using h2⟩
      unfold hshOf at hh
      rw [hl] at hh
      exact hh
    · cases h3
  · have z := List.all_eq_true.mp h4 p hp
    split at z
    · rename_i e1 e2
      exact .inl ⟨e1, e2⟩
    · rename_i d u e1 e2
      exact .inr ⟨d, u, e1, e2, z⟩
    · cases z
def kdFind (t : KdT) (z : List Nat) : Option (Option D) := (t.find? fun p => p.1 == z).map (·.2)
def kinF (t : KdT) (j : Nat) (neg : Bool) : D → D → Store → Res D := fun x y S => match x, y with
  | .str z, .fn i => if i = j then (match kdFind t z with | some o => .ok (.bl (xor neg o.isSome)) S | none => .bad) else .bad
  | _, _ => .bad
def kixF (t : KdT) (j : Nat) : D → D → Store → Res D := fun x y S => match x, y with
  | .fn i, .str z => if i = j then (match kdFind t z with | some (some d) => .ok d S | _ => .bad) else .bad
  | _, _ => .bad
theorem kdFind_mem {t : KdT} {z : List Nat} {o : Option D} (h : kdFind t z = some o) : (z, o) ∈ t := by
  unfold kdFind at h
  cases q : t.find? fun p => p.1 == z with
  | none => rw [q] at h; cases h
  | some p =>
    rw [q] at h
    have e1 : p.1 = z := by simpa using List.find?_some q
    have e2 : p.2 = o := by simpa using h
    subst e1 e2
    exact List.mem_of_find?_eq_some q
section
variable {L : Lw} {K : Fg} {c : L.Says K} {X : Cx} {W : WX} {x : Str} {t : KdT} {hd : List (Str × List Str)}
theorem ops_kin (j i i2 : Nat) (cc : Cc (L.gx K c) X W) (HD : HDk hd K X.w) {ks : List Str} (hi : hd[i]? = some (x, ks)) (h2 : L.fa[i2]? = some (.raw (kdB x t))) (hj : (L.gx K c).fns j = some (He.ga K x)) : OpS (L.gx K c) X W (compareOp .In) (kinF t j false) := by
  have hk : X.K = K := cc.k
  obtain ⟨⟨es, n, KD⟩, _, tb⟩ := kdB_ok (c.fact i2 h2) (HD.at i hi)
  refine OpS.of (op_in_kd (X := X) (by rw [hk]; exact KD)) fun ρ S H d1 d2 y z Q E rl r1 r2 p => ?_
  unfold kinF at p
  split at p
  · rename_i zt i'
    by_cases hij : i' = j
    · rw [if_pos hij] at p
      subst hij
      cases r1
      cases r2 with
      | @fn _ a ha =>
        rw [hj] at ha
        cases ha
        cases q : kdFind t zt with
        | none => rw [q] at p; exact p.elim
        | some o =>
          rw [q] at p
          have p := post_ok (x := V.bl (xor false o.isSome)) p rl (.bl _)
          rcases tb _ (kdFind_mem q) with ⟨e1, e2⟩ | ⟨d, u, e1, e2, _⟩
          · cases e1
            exact ⟨⟨zt.toArray⟩, none, rfl, rfl, by rw [hk]; exact e2, p⟩
          · cases e1
            exact ⟨⟨zt.toArray⟩, some u, rfl, rfl, by rw [hk]; exact e2, p⟩
    · rw [if_neg hij] at p
      exact p.elim
  · exact p.elim
theorem ixs_kix (j i i2 : Nat) (cc : Cc (L.gx K c) X W) (HD : HDk hd K X.w) {ks : List Str} (hi : hd[i]? = some (x, ks)) (h2 : L.fa[i2]? = some (.raw (kdB x t))) (hj : (L.gx K c).fns j = some (He.ga K x)) : IxS (L.gx K c) X W (kixF t j) := by
  have hk : X.K = K := cc.k
  obtain ⟨⟨es, n, KD⟩, _, tb⟩ := kdB_ok (c.fact i2 h2) (HD.at i hi)
  refine IxS.of (ix_kdict (X := X)) fun ρ S H d1 d2 y z Q E rl r1 r2 p => ?_
  unfold kixF at p
  split at p
  · rename_i i' zt
    by_cases hij : i' = j
    · rw [if_pos hij] at p
      subst hij
      cases r2
      cases r1 with
      | @fn _ a ha =>
        rw [hj] at ha
        cases ha
        split at p
        · rename_i d q
          rcases tb _ (kdFind_mem q) with ⟨e1, _⟩ | ⟨d', u, e1, e2, e3⟩
          · cases e1
          · cases e1
            obtain ⟨v, rv, rd⟩ := kvB_ok (G := L.gx K c) 8 d u e3
            exact ⟨_, ⟨zt.toArray⟩, v, rfl, rfl, ⟨es, n, u, by rw [hk]; exact KD.at_, KD.lit, by rw [hk]; exact e2, rv⟩, post_ok p rl (rd _ _)⟩
        · exact p.elim
    · rw [if_neg hij] at p
      exact p.elim
  · exact p.elim
theorem se_kd {pos : Pos} (j i2 : Nat) (NS : Ns K X.mg) (h2 : L.fa[i2]? = some (.raw (kdB x t))) (hj : (L.gx K c).fns j = some (He.ga K x)) (hg : Gl X x) (hdb : (x == ("__debug__" : Str)) = false := by decide) : SE (L.gx K c) X W (.Name x pos) (eC (.fn j)) := by
  have z : kdB x t K = true := c.fact i2 h2
  have hm : X.mg x = some (.ref (He.ga K x)) := by
    obtain ⟨hp, kin, ns⟩ := NS
    exact PySem.W.mg_of kin ns (He.eqO_ok (ba z).1)
  exact se_glob hg hm (v := .ref (He.ga K x)) rfl (fun ρ H => .fn hj) hdb
end
theorem Lw.obsH_eq {L : Lw} {hd : List (Str × List Str)} {n : Nat} {g : Addr → Option Obj} {s : Shared} (h : ∀ a, g a = s.heap.get? a) : L.obsH hd n g = (L.hookH hd n).obs s := by
  have e : g = s.heap.get? := funext h
  rw [e] <;> rfl
theorem walkMH {l : PySem.W.OpenLaw} {n k : Nat} {q : Program} {loose : List Str} {XP : (Str → Option Value) → Heap → Prop} {L : Lw} {hd : List (Str × List Str)} {N : Nat} {d : DefRec} {x : Str} {run : FN}
    (hn : l.most = some n) (hn2 : n ≤ sizeLine) (hdf : d.params.defaults = []) (hr : Room k callerA) (ht : L.tab = none)
    (F : ∀ (w : World) (mg : Str → Option Value) (fa : Addr) (K : Fg) (c : L.Says K), HDk hd K w → Ns K mg → mg d.name = some (.ref fa) →
      ∃ fd : FuncData, (∀ (s : Shared) (u : Value), BindsTo s fd ⟨[u], []⟩ [(x, u)]) ∧ ∀ base : Heap, K.In base → base.Ns mainGlobals mg → FnOk l.prog w K mg base (L2.CX l.prog w) k fa fd [x] (spF (L.gx K c) run 1))
    (good : ∀ ns : List Int, ns.length ≤ n → (∀ z ∈ ns, Builtin.Int.intBits z ≤ 1048576) → ∃ S, run [.fl (ns.map D.int)] ⟨[]⟩ = .ok (.bl true) S) :
    PySem.W.WalkO q loose XP (L.hookH hd N).says l.row.toRowW d [] (fun f vs => PySem.call f vs) := by
  refine Att.attach_callB hn hdf fun w s₀ s₁ mg mb fa o pm cd doc a vs ns G Y ho hdd hcd hmg hobj hints hlen hbits hg => ?_
  obtain ⟨K, KX, c, hh⟩ := Y
  obtain ⟨fd, hb, hF⟩ := F w mg fa K c hh ⟨_, KX, G.T.g⟩ hmg
  refine law_call KX G.T.g G.T.b G.T.builtins G.T.nolimit hg hobj hints (Nat.le_trans hlen hn2) hr hF hb (fun H hO hS => ?_) fun H e s' h => ?_
  · obtain ⟨rl, rv⟩ := start_ok (G := L.gx K c) (L.gx_tabs ht) hO hS
    obtain ⟨S, e⟩ := good ns hlen hbits
    refine ⟨⟨[], []⟩, ⟨[]⟩, _, rfl, rl, .cons rv .nil, ?_⟩
    rw [e]
    intro ρ' H' v _ _ r
    cases r
    rfl
  · obtain ⟨_, _, _, _, _, _, _, _, _, _, _, _, z⟩ := h
    exact z.elim
end L2.Mi

set_option Elab.async false
set_option linter.all false
set_option maxRecDepth 100000
set_option maxHeartbeats 2000000
namespace L2.Mi
open PySem PySem.Spec PyProof.Rows
def subT (x z : List Nat) : Bool := !(Builtin.Str.occurrences ⟨z.toArray⟩ ⟨x.toArray⟩ 0 (⟨z.toArray⟩ : Str).length 1).isEmpty
def inTF (neg : Bool) : D → D → Store → Res D := fun x y S => match x, y with
  | .str a, .str b => .ok (.bl (xor neg (subT a b))) S
  | _, _ => .bad
section
variable {G : Gx} {X : Cx} {W : WX}
theorem op_in_txt : OpR X (compareOp .In) (fun x y H Q => ∃ (a b : List Nat), x = .str ⟨a.toArray⟩ ∧ y = .str ⟨b.toArray⟩ ∧ Q (.bl (subT a b)) H) := by
  intro pins s σ H x y v u Q I rx ry h
  obtain ⟨a, b, rfl, rfl, q⟩ := h
  obtain ⟨t, rfl⟩ := rx
  obtain ⟨t', rfl⟩ := ry
  exact PyProof.Rows.in_str (fin_bl I q rfl)
theorem op_notIn_txt : OpR X (compareOp .NotIn) (fun x y H Q => ∃ (a b : List Nat), x = .str ⟨a.toArray⟩ ∧ y = .str ⟨b.toArray⟩ ∧ Q (.bl (!subT a b)) H) := by
  intro pins s σ H x y v u Q I rx ry h
  obtain ⟨a, b, rfl, rfl, q⟩ := h
  obtain ⟨t, rfl⟩ := rx
  obtain ⟨t', rfl⟩ := ry
  exact PyProof.Rows.notIn_str (fin_bl I q rfl)
theorem ops_inT : OpS G X W (compareOp .In) (inTF false) := OpS.of op_in_txt fun ρ S H d1 d2 x y Q E rl r1 r2 p => by
  unfold inTF at p
  split at p
  · rename_i a b
    cases r1
    cases r2
    exact ⟨a, b, rfl, rfl, by simpa using post_ok p rl (.bl _)⟩
  · exact p.elim
theorem ops_notInT : OpS G X W (compareOp .NotIn) (inTF true) := OpS.of op_notIn_txt fun ρ S H d1 d2 x y Q E rl r1 r2 p => by
  unfold inTF at p
  split at p
  · rename_i a b
    cases r1
    cases r2
    exact ⟨a, b, rfl, rfl, by simpa using post_ok p rl (.bl _)⟩
  · exact p.elim
end
end L2.Mi

set_option Elab.async false
set_option linter.all false
set_option maxRecDepth 100000
set_option maxHeartbeats 4000000
namespace L2.Mi.Pg
open PySem PySem.Spec PyProof.Rows
def oAdd (call : Nat → FN) : D → D → Store → Res D := opOr (addF noOwn) catR
def oSub (call : Nat → FN) : D → D → Store → Res D := subF noOwn
def oMul (call : Nat → FN) : D → D → Store → Res D := opOr (mulF noOwn) (opOr repF repS)
def dBitAnd (call : Nat → FN) : Disp := fun c => match c with | 0 => some (call 10) | _ => none
def oBitAnd (call : Nat → FN) : D → D → Store → Res D := (ownB (dBitAnd call))
def dBitOr (call : Nat → FN) : Disp := fun c => match c with | 0 => some (call 11) | _ => none
def oBitOr (call : Nat → FN) : D → D → Store → Res D := (ownB (dBitOr call))
def dInv (call : Nat → FN) : Disp := fun c => match c with | 0 => some (call 12) | _ => none
def oInv (call : Nat → FN) : D → Store → Res D := invF (dInv call)
def isiL (t u : Tag) : Option Bool := (isiT.find? fun q => q.1 == t && q.2.1 == u).map (·.2.2)
def dEq (call : Nat → FN) : Disp := fun c => match c with | 0 => some (call 13) | _ => none
def oEq (call : Nat → FN) : D → D → Store → Res D := opOr (eqF (eqOwn isiL (dEq call))) (eqTF (dEq call))
def oNe (call : Nat → FN) : D → D → Store → Res D := neF (neOwn isiL (dEq call))
def me_accept (call : Nat → FN) : Disp := fun c => match c with | 1 => some (call 17) | _ => none
def me_parts (call : Nat → FN) : Disp := fun c => match c with | 0 => some (call 8) | _ => none
def me_read_atom (call : Nat → FN) : Disp := fun c => match c with | 1 => some (call 22) | _ => none
def me_read_both (call : Nat → FN) : Disp := fun c => match c with | 1 => some (call 20) | _ => none
def me_read_condition (call : Nat → FN) : Disp := fun c => match c with | 1 => some (call 19) | _ => none
def me_read_end (call : Nat → FN) : Disp := fun c => match c with | 1 => some (call 18) | _ => none
def me_read_one (call : Nat → FN) : Disp := fun c => match c with | 1 => some (call 21) | _ => none
def me_read_value (call : Nat → FN) : Disp := fun c => match c with | 1 => some (call 23) | _ => none
def me_refuse (call : Nat → FN) : Disp := fun c => match c with | 1 => some (call 16) | _ => none
def at_at (call : Nat → FN) : ADisp := fun c => match c with | 1 => some none | _ => none
def at_depth (call : Nat → FN) : ADisp := fun c => match c with | 1 => some none | _ => none
def at_form (call : Nat → FN) : ADisp := fun c => match c with | 0 => some none | _ => none
def at_tokens (call : Nat → FN) : ADisp := fun c => match c with | 1 => some none | _ => none
def st_at (c : Nat) : Bool := match c with | 1 => true | _ => false
def st_depth (c : Nat) : Bool := match c with | 1 => true | _ => false
def st_form (c : Nat) : Bool := match c with | 0 => true | _ => false
def st_tokens (c : Nat) : Bool := match c with | 1 => true | _ => false
def m_4 (call : Nat → FN) : MS :=
  -- kind_of
    sSeq (sIf (tOf (eBin (inF false) (eVar 0) (eVar 1))) (sRet (eC (.str [109, 97, 114, 107]))) (sNext))
    (sSeq (sIf (tOf (eBin (inF false) (eBin itemF (eVar 0) (eC (.int 0))) (eC (.str [97, 98, 99, 100, 101, 102, 103, 104, 105, 106, 107, 108, 109, 110, 111, 112, 113, 114, 115, 116, 117, 118, 119, 120, 121, 122])))) (sRet (eC (.str [110, 97, 109, 101]))) (sNext))
    (sSeq (sFor (iOr (iSeq (eVar 0)) (iTxt (eVar 0))) (gName 2) (sIf (tOf (eBin (inF true) (eVar 2) (eC (.str [48, 49, 50, 51, 52, 53, 54, 55, 56, 57])))) (sRet (eC (.str [98, 97, 100]))) (sNext)) 100000)
    (sSeq (sIf (tAnd (tOf (eBin (oEq call) (eBin itemF (eVar 0) (eC (.int 0))) (eC (.str [48])))) (tOf (eBin gtI (eFn lenF (aList [eVar 0])) (eC (.int 1))))) (sRet (eC (.str [98, 97, 100]))) (sNext))
    (sRet (eC (.str [110, 117, 109, 98, 101, 114]))))))
def m_5 (call : Nat → FN) : MS :=
  -- end_of_run
    sSeq (sSet 2 (eVar 1))
    (sSeq (sWhile (tAnd (tOf (eBin ltI (eVar 2) (eFn lenF (aList [eVar 0])))) (tOr (tOf (eBin (inF false) (eBin itemF (eVar 0) (eVar 2)) (eC (.str [97, 98, 99, 100, 101, 102, 103, 104, 105, 106, 107, 108, 109, 110, 111, 112, 113, 114, 115, 116, 117, 118, 119, 120, 121, 122])))) (tOf (eBin (inF false) (eBin itemF (eVar 0) (eVar 2)) (eC (.str [48, 49, 50, 51, 52, 53, 54, 55, 56, 57])))))) (sAug 2 addI (eC (.int 1))) 100000)
    (sRet (eVar 2)))
def m_6 (call : Nat → FN) : MS :=
  -- tokens_of
    sSeq (sSet 3 (eLst []))
    (sSeq (sSet 4 (eC (.int 0)))
    (sSeq (sWhile (tOf (eBin ltI (eVar 4) (eFn lenF (aList [eVar 0])))) (sIf (tOf (eBin (inF false) (eBin itemF (eVar 0) (eVar 4)) (eTup [eC (.str [32]), eC (.str [10])]))) (sAug 4 addI (eC (.int 1))) (sIf (tOf (eBin (inF false) (eBin itemF (eVar 0) (eVar 4)) (eVar 1))) (sSeq (sDrop (eBm isLst appendF (eVar 3) (aList [eTup [eC (.str [109, 97, 114, 107]), eBin itemF (eVar 0) (eVar 4), eVar 4]])))
    (sAug 4 addI (eC (.int 1)))) (sSeq (sSet 5 (eFn (call 5) (aList [eVar 0, eVar 4])))
    (sSeq (sIf (tOr (tOf (eBin (oEq call) (eVar 5) (eVar 4))) (tOf (eBin (oEq call) (eFn (call 4) (aList [eSlice (eVar 0) (oSome (eVar 4)) (oSome (eVar 5)), eVar 2])) (eC (.str [98, 97, 100]))))) (sSeq (sDrop (eBm isLst appendF (eVar 3) (aList [eTup [eC (.str [98, 97, 100]), eC (.str []), eVar 4]])))
    (sRet (eVar 3))) (sNext))
    (sSeq (sDrop (eBm isLst appendF (eVar 3) (aList [eTup [eFn (call 4) (aList [eSlice (eVar 0) (oSome (eVar 4)) (oSome (eVar 5)), eVar 2]), eSlice (eVar 0) (oSome (eVar 4)) (oSome (eVar 5)), eVar 4]])))
    (sSet 4 (eVar 5))))))) 100000)
    (sSeq (sDrop (eBm isLst appendF (eVar 3) (aList [eTup [eC (.str [101, 110, 100]), eC (.str []), eFn lenF (aList [eVar 0])]])))
    (sRet (eVar 3)))))
def m_7 (call : Nat → FN) : MS :=
  -- Condition.__init__
    sFld st_form 0 (eVar 0) (eVar 1)
def m_8 (call : Nat → FN) : MS :=
  -- Condition.parts
    sRet (eUn (attrF (at_form call) 0) (eVar 0))
def m_10 (call : Nat → FN) : MS :=
  -- Condition.__and__
    sRet (eFn (makeW 0 (call 7)) (aList [eTup [eC (.str [97, 110, 100]), eVar 0, eVar 1]]))
def m_11 (call : Nat → FN) : MS :=
  -- Condition.__or__
    sRet (eFn (makeW 0 (call 7)) (aList [eTup [eC (.str [111, 114]), eVar 0, eVar 1]]))
def m_12 (call : Nat → FN) : MS :=
  -- Condition.__invert__
    sRet (eFn (makeW 0 (call 7)) (aList [eTup [eC (.str [110, 111, 116]), eVar 0]]))
def m_13 (call : Nat → FN) : MS :=
  -- Condition.__eq__
    sRet (eAnd (eFn (isiF isiL) (aList [eVar 1, eC (.cl 0)])) (eBin (oEq call) (eUn (attrF (at_form call) 0) (eVar 0)) (eUn (attrF (at_form call) 0) (eVar 1))))
def m_14 (call : Nat → FN) : MS :=
  -- where
    sSeq (sSet 1 (eC .non))
    (sSeq (sLockX 0 (sFor (iKy (eVar 0)) (gName 2) (sSeq (sIf (tOf (eBin (inF true) (eVar 2) (eC (.kt [(.str [107, 105, 110, 100]), (.str [108, 101, 118, 101, 108]), (.str [97, 99, 99, 101, 115, 115]), (.str [111, 116, 104, 101, 114]), (.str [97, 114, 114, 97, 121]), (.str [119, 111, 114, 100])])))) (sRaise 2 1 (eVar 2)) (sNext))
    (sSeq (sSet 3 (eFn (makeW 0 (call 7)) (aList [eTup [eVar 2, eBin dgetL (eVar 0) (eVar 2)]])))
    (sSet 1 (eIf (tOf (eBin (isF false) (eVar 1) (eC .non))) (eVar 3) (eBin (oBitAnd call) (eVar 1) (eVar 3)))))) 100000))
    (sRet (eIf (tOf (eBin (isF false) (eVar 1) (eC .non))) (eFn (makeW 0 (call 7)) (aList [eTup [eC (.str [97, 110, 121])]])) (eVar 1))))
def m_15 (call : Nat → FN) : MS :=
  -- QuestionReader.__init__
    sSeq (sIf (tNot (tTru (eFn (isiF isiL) (aList [eVar 1, eC (.ty "str")])))) (sRaise 1 2 (eVar 1)) (sNext))
    (sSeq (sFld st_tokens 3 (eVar 0) (eFn (call 6) (aList [eVar 1, eBin (oAdd call) (eC (.str [123, 125, 91, 93, 43, 45, 42])) (eC (.str [40, 41]))])))
    (sSeq (sFld st_at 4 (eVar 0) (eC (.int 0)))
    (sFld st_depth 5 (eVar 0) (eC (.int 0)))))
def m_16 (call : Nat → FN) : MS :=
  -- QuestionReader.refuse
    sRaise 4 6 (eBin itemF (eBin itemF (eUn (attrF (at_tokens call) 3) (eVar 0)) (eUn (attrF (at_at call) 4) (eVar 0))) (eC (.int 2)))
def m_17 (call : Nat → FN) : MS :=
  -- QuestionReader.accept
    sSeq (sAsg (eBin itemF (eUn (attrF (at_tokens call) 3) (eVar 0)) (eUn (attrF (at_at call) 4) (eVar 0))) (gTup [gName 2, gName 3, gName 4]))
    (sSeq (sIf (tOr (tOf (eBin (inF true) (eVar 2) (eTup [eC (.str [110, 97, 109, 101]), eC (.str [109, 97, 114, 107])]))) (tOf (eBin (oNe call) (eVar 3) (eVar 1)))) (sRet (eC (.bl false))) (sNext))
    (sSeq (sFaug (· + ·) st_at 4 (eVar 0) (eC (.int 1)))
    (sRet (eC (.bl true)))))
def m_18 (call : Nat → FN) : MS :=
  -- QuestionReader.read_end
    sIf (tOf (eBin (oNe call) (eBin itemF (eBin itemF (eUn (attrF (at_tokens call) 3) (eVar 0)) (eUn (attrF (at_at call) 4) (eVar 0))) (eC (.int 0))) (eC (.str [101, 110, 100])))) (sDrop (eMeth (me_refuse call) 7 (eVar 0) (aList []))) (sNext)
def m_19 (call : Nat → FN) : MS :=
  -- QuestionReader.read_condition
    sSeq (sSet 1 (eMeth (me_read_both call) 8 (eVar 0) (aList [])))
    (sSeq (sWhile (tTru (eMeth (me_accept call) 9 (eVar 0) (aList [eC (.str [111, 114])]))) (sSet 1 (eBin (oBitOr call) (eVar 1) (eMeth (me_read_both call) 8 (eVar 0) (aList [])))) 100000)
    (sRet (eVar 1)))
def m_20 (call : Nat → FN) : MS :=
  -- QuestionReader.read_both
    sSeq (sSet 1 (eMeth (me_read_one call) 10 (eVar 0) (aList [])))
    (sSeq (sWhile (tTru (eMeth (me_accept call) 9 (eVar 0) (aList [eC (.str [97, 110, 100])]))) (sSet 1 (eBin (oBitAnd call) (eVar 1) (eMeth (me_read_one call) 10 (eVar 0) (aList [])))) 100000)
    (sRet (eVar 1)))
def m_21 (call : Nat → FN) : MS :=
  -- QuestionReader.read_one
    sSeq (sIf (tOf (eBin gtI (eUn (attrF (at_depth call) 5) (eVar 0)) (eC (.int 30)))) (sRaise 3 11 (eC (.str [110, 101, 115, 116, 105, 110, 103]))) (sNext))
    (sSeq (sFaug (· + ·) st_depth 5 (eVar 0) (eC (.int 1)))
    (sSeq (sIf (tTru (eMeth (me_accept call) 9 (eVar 0) (aList [eC (.str [110, 111, 116])]))) (sSet 1 (eUn (oInv call) (eMeth (me_read_one call) 10 (eVar 0) (aList [])))) (sIf (tTru (eMeth (me_accept call) 9 (eVar 0) (aList [eC (.str [40])]))) (sSeq (sSet 1 (eMeth (me_read_condition call) 12 (eVar 0) (aList [])))
    (sIf (tNot (tTru (eMeth (me_accept call) 9 (eVar 0) (aList [eC (.str [41])])))) (sDrop (eMeth (me_refuse call) 7 (eVar 0) (aList []))) (sNext))) (sSet 1 (eMeth (me_read_atom call) 13 (eVar 0) (aList [])))))
    (sSeq (sFaug (· - ·) st_depth 5 (eVar 0) (eC (.int 1)))
    (sRet (eVar 1)))))
def m_22 (call : Nat → FN) : MS :=
  -- QuestionReader.read_atom
    sSeq (sIf (tTru (eMeth (me_accept call) 9 (eVar 0) (aList [eC (.str [97, 110, 121])]))) (sRet (eFn (makeW 0 (call 7)) (aList [eTup [eC (.str [97, 110, 121])]]))) (sNext))
    (sSeq (sFor (iOr (iSeq (eC (.kt [(.str [107, 105, 110, 100]), (.str [108, 101, 118, 101, 108]), (.str [97, 99, 99, 101, 115, 115]), (.str [111, 116, 104, 101, 114]), (.str [97, 114, 114, 97, 121]), (.str [119, 111, 114, 100])]))) (iTxt (eC (.kt [(.str [107, 105, 110, 100]), (.str [108, 101, 118, 101, 108]), (.str [97, 99, 99, 101, 115, 115]), (.str [111, 116, 104, 101, 114]), (.str [97, 114, 114, 97, 121]), (.str [119, 111, 114, 100])])))) (gName 1) (sIf (tTru (eMeth (me_accept call) 9 (eVar 0) (aList [eVar 1]))) (sRet (eFn (makeW 0 (call 7)) (aList [eTup [eVar 1, eMeth (me_read_value call) 14 (eVar 0) (aList [eVar 1])]]))) (sNext)) 100000)
    (sDrop (eMeth (me_refuse call) 7 (eVar 0) (aList []))))
def m_23 (call : Nat → FN) : MS :=
  -- QuestionReader.read_value
    sSeq (sAsg (eBin itemF (eUn (attrF (at_tokens call) 3) (eVar 0)) (eUn (attrF (at_at call) 4) (eVar 0))) (gTup [gName 2, gName 3, gName 4]))
    (sSeq (sIf (tOf (eBin (inF false) (eVar 1) (eC (.kt [(.str [108, 101, 118, 101, 108]), (.str [97, 99, 99, 101, 115, 115]), (.str [111, 116, 104, 101, 114])])))) (sSeq (sIf (tOf (eBin (oNe call) (eVar 2) (eC (.str [110, 117, 109, 98, 101, 114])))) (sDrop (eMeth (me_refuse call) 7 (eVar 0) (aList []))) (sNext))
    (sSeq (sIf (tOf (eBin gtI (eFn lenF (aList [eVar 3])) (eC (.int 150)))) (sRaise 3 11 (eC (.str [110, 117, 109, 98, 101, 114, 115]))) (sNext))
    (sSeq (sFaug (· + ·) st_at 4 (eVar 0) (eC (.int 1)))
    (sRet (eFn (fnOr intF intT) (aList [eVar 3])))))) (sNext))
    (sSeq (sIf (tOr (tAnd (tOf (eBin (oEq call) (eVar 1) (eC (.str [97, 114, 114, 97, 121])))) (tOf (eBin (oNe call) (eVar 2) (eC (.str [110, 97, 109, 101]))))) (tAnd (tOf (eBin (kinF kdt_0 1000 false) (eVar 1) (eC (.fn 1000)))) (tOf (eBin (inF true) (eVar 3) (eBin (kixF kdt_0 1000) (eC (.fn 1000)) (eVar 1)))))) (sDrop (eMeth (me_refuse call) 7 (eVar 0) (aList []))) (sNext))
    (sSeq (sFaug (· + ·) st_at 4 (eVar 0) (eC (.int 1)))
    (sRet (eVar 3)))))
def m_24 (call : Nat → FN) : MS :=
  -- read_condition
    sSeq (sSet 1 (eFn (makeW 1 (call 15)) (aList [eVar 0])))
    (sSeq (sSet 2 (eMeth (me_read_condition call) 12 (eVar 1) (aList [])))
    (sSeq (sDrop (eMeth (me_read_end call) 15 (eVar 1) (aList [])))
    (sRet (eVar 2))))
def m_25 (call : Nat → FN) : MS :=
  -- _law_pool
    sSeq (sSet 2 (eC (.int 0)))
    (sSeq (sIf (tOf (eBin ltI (eVar 1) (eFn lenF (aList [eVar 0])))) (sSet 2 (eBin itemF (eVar 0) (eVar 1))) (sNext))
    (sSeq (sSet 3 (eFn absF (aList [eVar 2])))
    (sSeq (sSet 4 (eBin modI (eBin (oMul call) (eFn intF (aList [eBin (oAdd call) (eBin modI (eFn intF (aList [eVar 2])) (eC (.int 2147483629))) (eBin (oMul call) (eC (.int 104729)) (eBin (oAdd call) (eVar 1) (eC (.int 1))))])) (eBin (oAdd call) (eVar 1) (eC (.int 7)))) (eC (.int 2147483629))))
    (sSeq (sSet 5 (eBin modI (eBin (oMul call) (eBin modI (eFn intF (aList [eBin (oMul call) (eVar 4) (eVar 4)])) (eC (.int 2147483629))) (eC (.int 48271))) (eC (.int 2147483647))))
    (sRet (eLst [eBin (oMul call) (eVar 3) (eFn intF (aList [eBin geI (eVar 3) (eBin powI (eC (.int 10)) (eC (.int 18)))])), eVar 5]))))))
def m_26 (call : Nat → FN) : MS :=
  -- _law_take
    sSeq (sIf (tOf (eBin gtI (eBin itemF (eVar 0) (eC (.int 0))) (eC (.int 0)))) (sSeq (sSet 2 (eBin modI (eFn intF (aList [eBin itemF (eVar 0) (eC (.int 0))])) (eVar 1)))
    (sSeq (sAsg (eBin divI (eBin itemF (eVar 0) (eC (.int 0))) (eVar 1)) (gSub (eVar 0) (eC (.int 0)) setL))
    (sRet (eVar 2)))) (sNext))
    (sSeq (sAsg (eBin modI (eFn intF (aList [eBin (oAdd call) (eBin (oMul call) (eBin itemF (eVar 0) (eC (.int 1))) (eC (.int 48271))) (eC (.int 12345))])) (eC (.int 2147483647))) (gSub (eVar 0) (eC (.int 1)) setL))
    (sRet (eBin modI (eBin divI (eBin modI (eFn intF (aList [eBin (oMul call) (eBin itemF (eVar 0) (eC (.int 1))) (eBin itemF (eVar 0) (eC (.int 1)))])) (eC (.int 2147483629))) (eC (.int 64))) (eVar 1))))
def m_27 (call : Nat → FN) : MS :=
  -- _law_atoms
    sSeq (sPar 1 2 (eLv [eC (.str [104, 105, 116]), eC (.str [109, 105, 115, 115]), eC (.str [99, 114, 111, 119, 100, 101, 100]), eC (.str [98, 97, 99, 107]), eC (.str [116, 104, 114, 111, 119, 110])]) (eLst []))
    (sSeq (sDrop (eBm isLst appendF (eVar 2) (aList [eTup [eC (.str [107, 105, 110, 100]), eBin itemF (eVar 1) (eFn (call 26) (aList [eVar 0, eC (.int 5)]))]])))
    (sSeq (sDrop (eBm isLst appendF (eVar 2) (aList [eTup [eC (.str [108, 101, 118, 101, 108]), eFn (call 26) (aList [eVar 0, eC (.int 3)])]])))
    (sSeq (sDrop (eBm isLst appendF (eVar 2) (aList [eTup [eC (.str [97, 99, 99, 101, 115, 115]), eFn (call 26) (aList [eVar 0, eC (.int 5)])]])))
    (sSeq (sDrop (eBm isLst appendF (eVar 2) (aList [eTup [eC (.str [111, 116, 104, 101, 114]), eFn (call 26) (aList [eVar 0, eC (.int 5)])]])))
    (sSeq (sDrop (eBm isLst appendF (eVar 2) (aList [eTup [eC (.str [97, 114, 114, 97, 121]), eBin itemF (eLv [eC (.str [97]), eC (.str [98])]) (eFn (call 26) (aList [eVar 0, eC (.int 2)]))]])))
    (sSeq (sDrop (eBm isLst appendF (eVar 2) (aList [eTup [eC (.str [119, 111, 114, 100]), eBin itemF (eLv [eC (.str [114, 101, 97, 100]), eC (.str [119, 114, 105, 116, 101])]) (eFn (call 26) (aList [eVar 0, eC (.int 2)]))]])))
    (sRet (eBin (oAdd call) (eVar 2) (eLv [eTup [eC (.str [97, 110, 121])]])))))))))
def m_28 (call : Nat → FN) : MS :=
  -- _law_form
    sSeq (sSet 2 (eFn (call 26) (aList [eVar 0, eC (.int 6)])))
    (sSeq (sIf (tOr (tOf (eBin (oEq call) (eVar 1) (eC (.int 0)))) (tOf (eBin ltI (eVar 2) (eC (.int 2))))) (sRet (eBin itemF (eFn (call 27) (aList [eVar 0])) (eFn (call 26) (aList [eVar 0, eC (.int 7)])))) (sNext))
    (sSeq (sIf (tOf (eBin (oEq call) (eVar 2) (eC (.int 2)))) (sRet (eTup [eC (.str [110, 111, 116]), eFn (call 28) (aList [eVar 0, eBin (oSub call) (eVar 1) (eC (.int 1))])])) (sNext))
    (sRet (eTup [eBin itemF (eLv [eC (.str [97, 110, 100]), eC (.str [111, 114])]) (eBin modI (eVar 2) (eC (.int 2))), eFn (call 28) (aList [eVar 0, eBin (oSub call) (eVar 1) (eC (.int 1))]), eFn (call 28) (aList [eVar 0, eBin (oSub call) (eVar 1) (eC (.int 1))])]))))
def m_29 (call : Nat → FN) : MS :=
  -- _law_words
    sSeq (sIf (tOf (eBin (oEq call) (eBin itemF (eVar 0) (eC (.int 0))) (eC (.str [97, 110, 121])))) (sRet (eLv [eC (.str [97, 110, 121])])) (sNext))
    (sSeq (sIf (tOf (eBin (oEq call) (eBin itemF (eVar 0) (eC (.int 0))) (eC (.str [110, 111, 116])))) (sRet (eBin (oAdd call) (eLv [eC (.str [110, 111, 116])]) (eFn (call 29) (aList [eBin itemF (eVar 0) (eC (.int 1)), eC (.int 2)])))) (sNext))
    (sSeq (sIf (tOf (eBin (inF false) (eBin itemF (eVar 0) (eC (.int 0))) (eLv [eC (.str [97, 110, 100]), eC (.str [111, 114])]))) (sSeq (sSet 2 (eFn (fnOr intF intT) (aList [eBin (oEq call) (eBin itemF (eVar 0) (eC (.int 0))) (eC (.str [97, 110, 100]))])))
    (sSeq (sSet 3 (eBin (oAdd call) (eBin (oAdd call) (eFn (call 29) (aList [eBin itemF (eVar 0) (eC (.int 1)), eVar 2])) (eLv [eBin itemF (eVar 0) (eC (.int 0))])) (eFn (call 29) (aList [eBin itemF (eVar 0) (eC (.int 2)), eBin (oAdd call) (eVar 2) (eC (.int 1))]))))
    (sRet (eIf (tOf (eBin ltI (eVar 2) (eVar 1))) (eBin (oAdd call) (eBin (oAdd call) (eLv [eC (.str [40])]) (eVar 3)) (eLv [eC (.str [41])])) (eVar 3))))) (sNext))
    (sRet (eLv [eBin itemF (eVar 0) (eC (.int 0)), eFn (fnOr strI strT) (aList [eBin itemF (eVar 0) (eC (.int 1))])]))))
def m_30 (call : Nat → FN) : MS :=
  -- _law_is_like
    sSeq (sSet 2 (eMeth (me_parts call) 16 (eVar 0) (aList [])))
    (sSeq (sIf (tOr (tOf (eBin (oNe call) (eFn lenF (aList [eVar 2])) (eFn lenF (aList [eVar 1])))) (tOf (eBin (oNe call) (eBin itemF (eVar 2) (eC (.int 0))) (eBin itemF (eVar 1) (eC (.int 0)))))) (sRet (eC (.bl false))) (sNext))
    (sSeq (sIf (tOf (eBin (oEq call) (eBin itemF (eVar 1) (eC (.int 0))) (eC (.str [110, 111, 116])))) (sRet (eFn (call 30) (aList [eBin itemF (eVar 2) (eC (.int 1)), eBin itemF (eVar 1) (eC (.int 1))]))) (sNext))
    (sSeq (sIf (tOf (eBin (inF false) (eBin itemF (eVar 1) (eC (.int 0))) (eLv [eC (.str [97, 110, 100]), eC (.str [111, 114])]))) (sRet (eAnd (eFn (call 30) (aList [eBin itemF (eVar 2) (eC (.int 1)), eBin itemF (eVar 1) (eC (.int 1))])) (eFn (call 30) (aList [eBin itemF (eVar 2) (eC (.int 2)), eBin itemF (eVar 1) (eC (.int 2))])))) (sNext))
    (sRet (eBin (oEq call) (eVar 2) (eVar 1))))))
def m_31 (call : Nat → FN) : MS :=
  -- _law_atom
    sSeq (sIf (tOf (eBin (oEq call) (eVar 0) (eC (.str [107, 105, 110, 100])))) (sRet (eKw [[107, 105, 110, 100]] (call 36) [eVar 1])) (sNext))
    (sSeq (sIf (tOf (eBin (oEq call) (eVar 0) (eC (.str [108, 101, 118, 101, 108])))) (sRet (eKw [[108, 101, 118, 101, 108]] (call 36) [eVar 1])) (sNext))
    (sSeq (sIf (tOf (eBin (oEq call) (eVar 0) (eC (.str [97, 99, 99, 101, 115, 115])))) (sRet (eKw [[97, 99, 99, 101, 115, 115]] (call 36) [eVar 1])) (sNext))
    (sSeq (sIf (tOf (eBin (oEq call) (eVar 0) (eC (.str [111, 116, 104, 101, 114])))) (sRet (eKw [[111, 116, 104, 101, 114]] (call 36) [eVar 1])) (sNext))
    (sRet (eIf (tOf (eBin (oEq call) (eVar 0) (eC (.str [97, 114, 114, 97, 121])))) (eKw [[97, 114, 114, 97, 121]] (call 36) [eVar 1]) (eKw [[119, 111, 114, 100]] (call 36) [eVar 1]))))))
def m_32 (call : Nat → FN) : MS :=
  -- _law_built
    sSeq (sIf (tOf (eBin (oEq call) (eBin itemF (eVar 0) (eC (.int 0))) (eC (.str [97, 110, 121])))) (sRet (eFn (kwF [] (call 36)) (aList []))) (sNext))
    (sSeq (sIf (tOf (eBin (oEq call) (eBin itemF (eVar 0) (eC (.int 0))) (eC (.str [110, 111, 116])))) (sRet (eUn (oInv call) (eFn (call 32) (aList [eBin itemF (eVar 0) (eC (.int 1))])))) (sNext))
    (sSeq (sIf (tOf (eBin (inF false) (eBin itemF (eVar 0) (eC (.int 0))) (eLv [eC (.str [97, 110, 100]), eC (.str [111, 114])]))) (sSeq (sPar 1 2 (eFn (call 32) (aList [eBin itemF (eVar 0) (eC (.int 1))])) (eFn (call 32) (aList [eBin itemF (eVar 0) (eC (.int 2))])))
    (sRet (eIf (tOf (eBin (oEq call) (eBin itemF (eVar 0) (eC (.int 0))) (eC (.str [97, 110, 100])))) (eBin (oBitAnd call) (eVar 1) (eVar 2)) (eBin (oBitOr call) (eVar 1) (eVar 2))))) (sNext))
    (sRet (eFn (call 31) (aList [eBin itemF (eVar 0) (eC (.int 0)), eBin itemF (eVar 0) (eC (.int 1))])))))
def m_33 (call : Nat → FN) : MS :=
  -- _law_text
    sSeq (sPar 2 3 (eLv [eC (.str [32]), eC (.str [10]), eC (.str [32, 32])]) (eC (.str [])))
    (sSeq (sFor (iOr (iSeq (eVar 1)) (iTxt (eVar 1))) (gName 4) (sSeq (sSet 5 (eBin itemF (eVar 2) (eFn (call 26) (aList [eVar 0, eC (.int 3)]))))
    (sSeq (sSet 6 (eAnd (eBin (inTF false) (eVar 4) (eC (.str [40, 41]))) (eBin (oEq call) (eFn (call 26) (aList [eVar 0, eC (.int 2)])) (eC (.int 0)))))
    (sSeq (sIf (tOr (tAnd (tOf (eBin (oNe call) (eVar 3) (eC (.str [])))) (tNot (tTru (eVar 6)))) (tOf (eBin (oEq call) (eFn (call 26) (aList [eVar 0, eC (.int 4)])) (eC (.int 0))))) (sSet 3 (eBin (oAdd call) (eVar 3) (eVar 5))) (sNext))
    (sSeq (sSet 3 (eBin (oAdd call) (eVar 3) (eVar 4)))
    (sSet 3 (eBin (oAdd call) (eVar 3) (eIf (tOr (tOf (eBin (inTF true) (eVar 4) (eC (.str [40, 41])))) (tOf (eBin (oEq call) (eFn (call 26) (aList [eVar 0, eC (.int 2)])) (eC (.int 0))))) (eC (.str [])) (eC (.str [32]))))))))) 100000)
    (sRet (eVar 3)))
def m_34 (call : Nat → FN) : MS :=
  -- _law_more
    sSeq (sSet 2 (eFn (call 29) (aList [eVar 1, eC (.int 0)])))
    (sSeq (sFor (iRange1 (eFn (call 26) (aList [eVar 0, eC (.int 3)]))) (gName 3) (sSet 2 (eBin (oAdd call) (eBin (oAdd call) (eLv [eC (.str [40])]) (eVar 2)) (eLv [eC (.str [41])]))) 100000)
    (sRet (eVar 2)))
def m_35 (call : Nat → FN) : MS :=
  -- law
    sSeq (sFor (iRange1 (eFn max2F (aList [eC (.int 1), eFn min2F (aList [eFn lenF (aList [eVar 0]), eC (.int 6)])]))) (gName 1) (sSeq (sSet 2 (eFn (call 25) (aList [eVar 0, eVar 1])))
    (sSeq (sFor (iRange1 (eC (.int 5))) (gName 3) (sSeq (sSet 4 (eFn (call 28) (aList [eVar 2, eC (.int 3)])))
    (sSeq (sSet 5 (eLv [eBm isStr joinF (eC (.str [32])) (aList [eFn (call 29) (aList [eVar 4, eC (.int 0)])]), eFn (call 33) (aList [eVar 2, eFn (call 34) (aList [eVar 2, eVar 4])])]))
    (sSeq (sFor (iOr (iSeq (eVar 5)) (iTxt (eVar 5))) (gName 6) (sSeq (sSet 7 (eFn (call 24) (aList [eVar 6])))
    (sSeq (sIf (tOr (tNot (tTru (eFn (call 30) (aList [eVar 7, eVar 4])))) (tNot (tTru (eFn (call 30) (aList [eFn (call 32) (aList [eVar 4]), eVar 4]))))) (sRet (eC (.bl false))) (sNext))
    (sIf (tOr (tOf (eBin (oNe call) (eVar 7) (eFn (call 32) (aList [eVar 4])))) (tOr (tOf (eBin (oEq call) (eVar 7) (eVar 4))) (tNot (tOf (eBin (oEq call) (eVar 7) (eFn (call 24) (aList [eVar 6]))))))) (sRet (eC (.bl false))) (sNext)))) 100000)
    (sSeq (sSet 8 (eFn (call 28) (aList [eVar 2, eC (.int 2)])))
    (sIf (tOf (eBin (oNe call) (eBin (oEq call) (eFn (call 24) (aList [eBm isStr joinF (eC (.str [32])) (aList [eFn (call 29) (aList [eVar 8, eC (.int 0)])])])) (eFn (call 32) (aList [eVar 4]))) (eBin (oEq call) (eVar 8) (eVar 4)))) (sRet (eC (.bl false))) (sNext)))))) 100000)
    (sSeq (sAsg (eLcV (iRange1 (eC (.int 3))) (.one 3) (tYesM) (eBin itemF (eFn (call 27) (aList [eVar 2])) (eFn (call 26) (aList [eVar 2, eC (.int 7)]))) [3] 100000) (gLstT [gName 9, gName 10, gName 11]))
    (sSeq (sSet 12 (eLcV (iOr (iSeq (eLv [eVar 9, eVar 10, eVar 11])) (iTxt (eLv [eVar 9, eVar 10, eVar 11]))) (.one 4) (tYesM) (eBm isStr joinF (eC (.str [32])) (aList [eFn (call 29) (aList [eVar 4, eC (.int 0)])])) [4] 100000))
    (sSeq (sFor (iOr (iSeq (eLv [eC (.str [97, 110, 100]), eC (.str [111, 114])])) (iTxt (eLv [eC (.str [97, 110, 100]), eC (.str [111, 114])]))) (gName 13) (sSeq (sSet 14 (eTup [eVar 13, eTup [eVar 13, eVar 9, eVar 10], eVar 11]))
    (sIf (tNot (tTru (eFn (call 30) (aList [eFn (call 24) (aList [eBm isStr joinF (eBin (oAdd call) (eBin (oAdd call) (eC (.str [32])) (eVar 13)) (eC (.str [32]))) (aList [eVar 12])]), eVar 14])))) (sRet (eC (.bl false))) (sNext))) 100000)
    (sSeq (sSet 15 (eFn (call 24) (aList [eBin (oAdd call) (eBin (oAdd call) (eBin (oAdd call) (eBin (oAdd call) (eBin itemF (eVar 12) (eC (.int 0))) (eC (.str [32, 111, 114, 32, 110, 111, 116, 32]))) (eBin itemF (eVar 12) (eC (.int 1)))) (eC (.str [32, 97, 110, 100, 32]))) (eBin itemF (eVar 12) (eC (.int 2)))])))
    (sIf (tNot (tTru (eFn (call 30) (aList [eVar 15, eTup [eC (.str [111, 114]), eVar 9, eTup [eC (.str [97, 110, 100]), eTup [eC (.str [110, 111, 116]), eVar 10], eVar 11]]])))) (sRet (eC (.bl false))) (sNext)))))))) 100000)
    (sRet (eBin (oEq call) (eMeth (me_parts call) 16 (eFn (kwF [] (call 36)) (aList [])) (aList [])) (eTup [eC (.str [97, 110, 121])])))
def bodies : List ((Nat → FN) → FN) := [fun call => fun _ _ => .bad,
  fun call => fun _ _ => .bad,
  fun call => fun _ _ => .bad,
  fun call => fun _ _ => .bad,
  fun call => callD 2 [] (bodyRun 3 (m_4 call)),
  fun call => callD 2 [] (bodyRun 3 (m_5 call)),
  fun call => callD 3 [(.str [123, 125, 91, 93, 43, 45, 42]), (.kt [(.str [97, 114, 114, 97, 121]), (.str [102, 111, 114]), (.str [114, 101, 97, 100]), (.str [119, 114, 105, 116, 101]), (.str [102, 108, 117, 115, 104]), (.str [110])])] (bodyRun 6 (m_6 call)),
  fun call => callD 2 [] (bodyRun 2 (m_7 call)),
  fun call => callD 1 [] (bodyRun 1 (m_8 call)),
  fun call => fun _ _ => .bad,
  fun call => callD 2 [] (bodyRun 2 (m_10 call)),
  fun call => callD 2 [] (bodyRun 2 (m_11 call)),
  fun call => callD 1 [] (bodyRun 1 (m_12 call)),
  fun call => callD 2 [] (bodyRun 2 (m_13 call)),
  fun call => fun _ _ => .bad,
  fun call => callD 2 [] (bodyRun 2 (m_15 call)),
  fun call => callD 1 [] (bodyRun 1 (m_16 call)),
  fun call => callD 2 [] (bodyRun 5 (m_17 call)),
  fun call => callD 1 [] (bodyRun 1 (m_18 call)),
  fun call => callD 1 [] (bodyRun 2 (m_19 call)),
  fun call => callD 1 [] (bodyRun 2 (m_20 call)),
  fun call => callD 1 [] (bodyRun 2 (m_21 call)),
  fun call => callD 1 [] (bodyRun 2 (m_22 call)),
  fun call => callD 2 [] (bodyRun 5 (m_23 call)),
  fun call => callD 1 [] (bodyRun 3 (m_24 call)),
  fun call => callD 2 [] (bodyRun 6 (m_25 call)),
  fun call => callD 2 [] (bodyRun 3 (m_26 call)),
  fun call => callD 1 [] (bodyRun 3 (m_27 call)),
  fun call => callD 2 [] (bodyRun 3 (m_28 call)),
  fun call => callD 2 [] (bodyRun 4 (m_29 call)),
  fun call => callD 2 [] (bodyRun 3 (m_30 call)),
  fun call => callD 2 [] (bodyRun 2 (m_31 call)),
  fun call => callD 1 [] (bodyRun 3 (m_32 call)),
  fun call => callD 2 [] (bodyRun 7 (m_33 call)),
  fun call => callD 2 [] (bodyRun 4 (m_34 call)),
  fun call => callD 1 [] (bodyRun 16 (m_35 call)),
  fun call => bodyRun 4 (m_14 call)]
def run : Nat → Nat → FN
  | 0, _ => fun _ _ => .bad
  | n + 1, i => (bodies.getD i fun _ _ _ => .bad) (run n)
theorem run_14 {n : Nat} {S : Store} {a0 : D} : run (n + 1) 36 [a0] S = fin (m_14 (run n) [some a0, none, none, none] S) := rfl
theorem run_4 {n : Nat} {S : Store} {a0 : D} {a1 : D} : run (n + 1) 4 [a0, a1] S = fin (m_4 (run n) [some a0, some a1, none] S) := rfl
theorem run_5 {n : Nat} {S : Store} {a0 : D} {a1 : D} : run (n + 1) 5 [a0, a1] S = fin (m_5 (run n) [some a0, some a1, none] S) := rfl
theorem run_6_ {n : Nat} {S : Store} {a0 : D} {a1 : D} : run (n + 1) 6 [a0, a1] S = fin (m_6 (run n) [some a0, some a1, some (.kt [(.str [97, 114, 114, 97, 121]), (.str [102, 111, 114]), (.str [114, 101, 97, 100]), (.str [119, 114, 105, 116, 101]), (.str [102, 108, 117, 115, 104]), (.str [110])]), none, none, none] S) := rfl
theorem run_7 {n : Nat} {S : Store} {a0 : D} {a1 : D} : run (n + 1) 7 [a0, a1] S = fin (m_7 (run n) [some a0, some a1] S) := rfl
theorem run_8 {n : Nat} {S : Store} {a0 : D} : run (n + 1) 8 [a0] S = fin (m_8 (run n) [some a0] S) := rfl
theorem run_10 {n : Nat} {S : Store} {a0 : D} {a1 : D} : run (n + 1) 10 [a0, a1] S = fin (m_10 (run n) [some a0, some a1] S) := rfl
theorem run_11 {n : Nat} {S : Store} {a0 : D} {a1 : D} : run (n + 1) 11 [a0, a1] S = fin (m_11 (run n) [some a0, some a1] S) := rfl
theorem run_12 {n : Nat} {S : Store} {a0 : D} : run (n + 1) 12 [a0] S = fin (m_12 (run n) [some a0] S) := rfl
theorem run_13 {n : Nat} {S : Store} {a0 : D} {a1 : D} : run (n + 1) 13 [a0, a1] S = fin (m_13 (run n) [some a0, some a1] S) := rfl
theorem run_15 {n : Nat} {S : Store} {a0 : D} {a1 : D} : run (n + 1) 15 [a0, a1] S = fin (m_15 (run n) [some a0, some a1] S) := rfl
theorem run_17 {n : Nat} {S : Store} {a0 : D} {a1 : D} : run (n + 1) 17 [a0, a1] S = fin (m_17 (run n) [some a0, some a1, none, none, none] S) := rfl
theorem run_18 {n : Nat} {S : Store} {a0 : D} : run (n + 1) 18 [a0] S = fin (m_18 (run n) [some a0] S) := rfl
theorem run_19 {n : Nat} {S : Store} {a0 : D} : run (n + 1) 19 [a0] S = fin (m_19 (run n) [some a0, none] S) := rfl
theorem run_20 {n : Nat} {S : Store} {a0 : D} : run (n + 1) 20 [a0] S = fin (m_20 (run n) [some a0, none] S) := rfl
theorem run_21 {n : Nat} {S : Store} {a0 : D} : run (n + 1) 21 [a0] S = fin (m_21 (run n) [some a0, none] S) := rfl
theorem run_22 {n : Nat} {S : Store} {a0 : D} : run (n + 1) 22 [a0] S = fin (m_22 (run n) [some a0, none] S) := rfl
theorem run_23 {n : Nat} {S : Store} {a0 : D} {a1 : D} : run (n + 1) 23 [a0, a1] S = fin (m_23 (run n) [some a0, some a1, none, none, none] S) := rfl
theorem run_24 {n : Nat} {S : Store} {a0 : D} : run (n + 1) 24 [a0] S = fin (m_24 (run n) [some a0, none, none] S) := rfl
theorem run_25 {n : Nat} {S : Store} {a0 : D} {a1 : D} : run (n + 1) 25 [a0, a1] S = fin (m_25 (run n) [some a0, some a1, none, none, none, none] S) := rfl
theorem run_26 {n : Nat} {S : Store} {a0 : D} {a1 : D} : run (n + 1) 26 [a0, a1] S = fin (m_26 (run n) [some a0, some a1, none] S) := rfl
theorem run_27 {n : Nat} {S : Store} {a0 : D} : run (n + 1) 27 [a0] S = fin (m_27 (run n) [some a0, none, none] S) := rfl
theorem run_28 {n : Nat} {S : Store} {a0 : D} {a1 : D} : run (n + 1) 28 [a0, a1] S = fin (m_28 (run n) [some a0, some a1, none] S) := rfl
theorem run_29 {n : Nat} {S : Store} {a0 : D} {a1 : D} : run (n + 1) 29 [a0, a1] S = fin (m_29 (run n) [some a0, some a1, none, none] S) := rfl
theorem run_30 {n : Nat} {S : Store} {a0 : D} {a1 : D} : run (n + 1) 30 [a0, a1] S = fin (m_30 (run n) [some a0, some a1, none] S) := rfl
theorem run_31 {n : Nat} {S : Store} {a0 : D} {a1 : D} : run (n + 1) 31 [a0, a1] S = fin (m_31 (run n) [some a0, some a1] S) := rfl
theorem run_32 {n : Nat} {S : Store} {a0 : D} : run (n + 1) 32 [a0] S = fin (m_32 (run n) [some a0, none, none] S) := rfl
theorem run_33 {n : Nat} {S : Store} {a0 : D} {a1 : D} : run (n + 1) 33 [a0, a1] S = fin (m_33 (run n) [some a0, some a1, none, none, none, none, none] S) := rfl
theorem run_34 {n : Nat} {S : Store} {a0 : D} {a1 : D} : run (n + 1) 34 [a0, a1] S = fin (m_34 (run n) [some a0, some a1, none, none] S) := rfl
def kwl_0 : List (List (List Nat)) := [[[107, 105, 110, 100]], [[108, 101, 118, 101, 108]], [[97, 99, 99, 101, 115, 115]], [[111, 116, 104, 101, 114]], [[97, 114, 114, 97, 121]], [[119, 111, 114, 100]], []]
end L2.Mi.Pg

set_option Elab.async false
set_option linter.all false
set_option maxRecDepth 100000
set_option maxHeartbeats 4000000
namespace L2.Mi.Pg
open PySem PySem.Spec PyProof.Rows
section
variable {K : Fg} {c : L.Says K} {X : Cx} {W : WX} {n : Nat}
def isG (j : Nat) : Bool := [].contains j
abbrev IH (c : L.Says K) (P : Program) (w : World) (mg : Str → Option Value) (base : Heap) (n : Nat) : Prop := (∀ (j : Nat) {d : DefM}, defs[j]? = some d → isG j = false → Cal (L.gx K c) P w mg base (lv n) (d.pth.ad K) (run n j)) ∧ (∀ (j : Nat) {d : DefM}, defs[j]? = some d → CalG (L.gx K c) P w mg base (lv n) (d.pth.ad K) (run n j)) ∧ (∀ kn ∈ kwl_0, CalK (L.gx K c) P w mg base (lv n) (He.ga K "where") kn (run n 36))
theorem hu_of {k : Nat} (hr : Room k X.A) : X.A.units + 64 < cLine := by have := hr.un; omega
theorem oAdd_ok (cc : Cc (L.gx K c) X W) (hr : Room (lv n + 1) X.A) (ih : IH c X.prog X.w X.mg X.base n) : OpS (L.gx K c) X W (binaryOp .Add) (oAdd (run n)) := (ops_add cc (noOwn_ok)).or ops_catR
theorem oSub_ok (cc : Cc (L.gx K c) X W) (hr : Room (lv n + 1) X.A) (ih : IH c X.prog X.w X.mg X.base n) : OpS (L.gx K c) X W (binaryOp .Sub) (oSub (run n)) := ops_sub (noOwn_ok)
theorem oMul_ok (cc : Cc (L.gx K c) X W) (hr : Room (lv n + 1) X.A) (ih : IH c X.prog X.w X.mg X.base n) : OpS (L.gx K c) X W (binaryOp .Mult) (oMul (run n)) := (ops_mul (noOwn_ok)).or ((ops_rep cc).or ops_repS)
theorem oBitAnd_ok (cc : Cc (L.gx K c) X W) (hr : Room (lv n + 1) X.A) (ih : IH c X.prog X.w X.mg X.base n) : OpS (L.gx K c) X W (binaryOp .BitAnd) (oBitAnd (run n)) := ops_own (fun ci g h => by
    unfold dBitAnd at h
    split at h
    · cases h; exact binS c 0 61 rfl rfl (fns_cal cc (ih.1 10 rfl rfl) (hr.mono (Nat.le_succ _))) cc.k
    · cases h)
theorem oBitOr_ok (cc : Cc (L.gx K c) X W) (hr : Room (lv n + 1) X.A) (ih : IH c X.prog X.w X.mg X.base n) : OpS (L.gx K c) X W (binaryOp .BitOr) (oBitOr (run n)) := ops_own (fun ci g h => by
    unfold dBitOr at h
    split at h
    · cases h; exact binS c 0 62 rfl rfl (fns_cal cc (ih.1 11 rfl rfl) (hr.mono (Nat.le_succ _))) cc.k
    · cases h)
theorem oInv_ok (cc : Cc (L.gx K c) X W) (hr : Room (lv n + 1) X.A) (ih : IH c X.prog X.w X.mg X.base n) : UnS (L.gx K c) X W (unaryOp .Invert) (oInv (run n)) := uns_inv (fun ci g h => by
    unfold dInv at h
    split at h
    · cases h; exact unS c 0 63 rfl rfl (fns_cal cc (ih.1 12 rfl rfl) (hr.mono (Nat.le_succ _))) cc.k
    · cases h)
theorem oEq_ok (cc : Cc (L.gx K c) X W) (hr : Room (lv n + 1) X.A) (ih : IH c X.prog X.w X.mg X.base n) : OpS (L.gx K c) X W (compareOp .Eq) (oEq (run n)) := (ops_eq cc (hu_of hr) (ops_eqOwn cc (hu_of hr) (fun ci g h => by
    unfold dEq at h
    split at h
    · cases h; exact unS c 0 64 rfl rfl (fns_cal cc (ih.1 13 rfl rfl) (hr.mono (Nat.le_succ _))) cc.k
    · cases h))).or (ops_eqT cc hr (fun ci g h => by
    unfold dEq at h
    split at h
    · cases h; exact eqK c 0 64 rfl rfl (ih.1 13 rfl rfl) cc.k
    · cases h))
theorem oNe_ok (cc : Cc (L.gx K c) X W) (hr : Room (lv n + 1) X.A) (ih : IH c X.prog X.w X.mg X.base n) : OpS (L.gx K c) X W (compareOp .NotEq) (oNe (run n)) := ops_ne cc (hu_of hr) (ops_neOwn cc (hu_of hr) (fun ci g h => by
    unfold dEq at h
    split at h
    · cases h; exact neS c 0 65 rfl rfl (ih.1 13 rfl rfl) hr cc.k
    · cases h))
theorem me_accept_ok (cc : Cc (L.gx K c) X W) (hr : Room (lv n + 1) X.A) (ih : IH c X.prog X.w X.mg X.base n) : ∀ ci g, me_accept (run n) ci = some g → MethS (L.gx K c) X W "accept" ci g := fun ci g h => by
    unfold me_accept at h
    split at h
    · cases h; exact methS c 1 52 rfl rfl (fns_cal cc (ih.1 17 rfl rfl) (hr.mono (Nat.le_succ _))) cc.k
    · cases h
theorem me_parts_ok (cc : Cc (L.gx K c) X W) (hr : Room (lv n + 1) X.A) (ih : IH c X.prog X.w X.mg X.base n) : ∀ ci g, me_parts (run n) ci = some g → MethS (L.gx K c) X W "parts" ci g := fun ci g h => by
    unfold me_parts at h
    split at h
    · cases h; exact methS c 0 53 rfl rfl (fns_cal cc (ih.1 8 rfl rfl) (hr.mono (Nat.le_succ _))) cc.k
    · cases h
theorem me_read_atom_ok (cc : Cc (L.gx K c) X W) (hr : Room (lv n + 1) X.A) (ih : IH c X.prog X.w X.mg X.base n) : ∀ ci g, me_read_atom (run n) ci = some g → MethS (L.gx K c) X W "read_atom" ci g := fun ci g h => by
    unfold me_read_atom at h
    split at h
    · cases h; exact methS c 1 54 rfl rfl (fns_cal cc (ih.1 22 rfl rfl) (hr.mono (Nat.le_succ _))) cc.k
    · cases h
theorem me_read_both_ok (cc : Cc (L.gx K c) X W) (hr : Room (lv n + 1) X.A) (ih : IH c X.prog X.w X.mg X.base n) : ∀ ci g, me_read_both (run n) ci = some g → MethS (L.gx K c) X W "read_both" ci g := fun ci g h => by
    unfold me_read_both at h
    split at h
    · cases h; exact methS c 1 55 rfl rfl (fns_cal cc (ih.1 20 rfl rfl) (hr.mono (Nat.le_succ _))) cc.k
    · cases h
theorem me_read_condition_ok (cc : Cc (L.gx K c) X W) (hr : Room (lv n + 1) X.A) (ih : IH c X.prog X.w X.mg X.base n) : ∀ ci g, me_read_condition (run n) ci = some g → MethS (L.gx K c) X W "read_condition" ci g := fun ci g h => by
    unfold me_read_condition at h
    split at h
    · cases h; exact methS c 1 56 rfl rfl (fns_cal cc (ih.1 19 rfl rfl) (hr.mono (Nat.le_succ _))) cc.k
    · cases h
theorem me_read_end_ok (cc : Cc (L.gx K c) X W) (hr : Room (lv n + 1) X.A) (ih : IH c X.prog X.w X.mg X.base n) : ∀ ci g, me_read_end (run n) ci = some g → MethS (L.gx K c) X W "read_end" ci g := fun ci g h => by
    unfold me_read_end at h
    split at h
    · cases h; exact methS c 1 57 rfl rfl (fns_cal cc (ih.1 18 rfl rfl) (hr.mono (Nat.le_succ _))) cc.k
    · cases h
theorem me_read_one_ok (cc : Cc (L.gx K c) X W) (hr : Room (lv n + 1) X.A) (ih : IH c X.prog X.w X.mg X.base n) : ∀ ci g, me_read_one (run n) ci = some g → MethS (L.gx K c) X W "read_one" ci g := fun ci g h => by
    unfold me_read_one at h
    split at h
    · cases h; exact methS c 1 58 rfl rfl (fns_cal cc (ih.1 21 rfl rfl) (hr.mono (Nat.le_succ _))) cc.k
    · cases h
theorem me_read_value_ok (cc : Cc (L.gx K c) X W) (hr : Room (lv n + 1) X.A) (ih : IH c X.prog X.w X.mg X.base n) : ∀ ci g, me_read_value (run n) ci = some g → MethS (L.gx K c) X W "read_value" ci g := fun ci g h => by
    unfold me_read_value at h
    split at h
    · cases h; exact methS c 1 59 rfl rfl (fns_cal cc (ih.1 23 rfl rfl) (hr.mono (Nat.le_succ _))) cc.k
    · cases h
theorem me_refuse_ok (cc : Cc (L.gx K c) X W) (hr : Room (lv n + 1) X.A) (ih : IH c X.prog X.w X.mg X.base n) : ∀ ci g, me_refuse (run n) ci = some g → MethS (L.gx K c) X W "refuse" ci g := fun ci g h => by
    unfold me_refuse at h
    split at h
    · cases h; exact methS c 1 60 rfl rfl (fns_cal cc (ih.1 16 rfl rfl) (hr.mono (Nat.le_succ _))) cc.k
    · cases h
theorem at_at_f (cc : Cc (L.gx K c) X W) : ∀ ci, at_at (run n) ci = some none → FieldS (L.gx K c) X "at" ci := fun ci h => by
    unfold at_at at h
    split at h
    · exact fieldS c 1 48 rfl rfl cc.k
    · cases h
theorem at_at_p (cc : Cc (L.gx K c) X W) (hr : Room (lv n + 1) X.A) (ih : IH c X.prog X.w X.mg X.base n) : ∀ ci g, at_at (run n) ci = some (some g) → PropS (L.gx K c) X "at" ci g := fun ci g h => by
    unfold at_at at h
    split at h
    · cases h
    · cases h
theorem at_depth_f (cc : Cc (L.gx K c) X W) : ∀ ci, at_depth (run n) ci = some none → FieldS (L.gx K c) X "depth" ci := fun ci h => by
    unfold at_depth at h
    split at h
    · exact fieldS c 1 49 rfl rfl cc.k
    · cases h
theorem at_depth_p (cc : Cc (L.gx K c) X W) (hr : Room (lv n + 1) X.A) (ih : IH c X.prog X.w X.mg X.base n) : ∀ ci g, at_depth (run n) ci = some (some g) → PropS (L.gx K c) X "depth" ci g := fun ci g h => by
    unfold at_depth at h
    split at h
    · cases h
    · cases h
theorem at_form_f (cc : Cc (L.gx K c) X W) : ∀ ci, at_form (run n) ci = some none → FieldS (L.gx K c) X "form" ci := fun ci h => by
    unfold at_form at h
    split at h
    · exact fieldS c 0 50 rfl rfl cc.k
    · cases h
theorem at_form_p (cc : Cc (L.gx K c) X W) (hr : Room (lv n + 1) X.A) (ih : IH c X.prog X.w X.mg X.base n) : ∀ ci g, at_form (run n) ci = some (some g) → PropS (L.gx K c) X "form" ci g := fun ci g h => by
    unfold at_form at h
    split at h
    · cases h
    · cases h
theorem at_tokens_f (cc : Cc (L.gx K c) X W) : ∀ ci, at_tokens (run n) ci = some none → FieldS (L.gx K c) X "tokens" ci := fun ci h => by
    unfold at_tokens at h
    split at h
    · exact fieldS c 1 51 rfl rfl cc.k
    · cases h
theorem at_tokens_p (cc : Cc (L.gx K c) X W) (hr : Room (lv n + 1) X.A) (ih : IH c X.prog X.w X.mg X.base n) : ∀ ci g, at_tokens (run n) ci = some (some g) → PropS (L.gx K c) X "tokens" ci g := fun ci g h => by
    unfold at_tokens at h
    split at h
    · cases h
    · cases h
theorem st_at_ok (cc : Cc (L.gx K c) X W) : ∀ ci, st_at ci = true → FieldS (L.gx K c) X "at" ci := fun ci h => by
    unfold st_at at h
    split at h
    · exact fieldS c 1 48 rfl rfl cc.k
    · cases h
theorem st_depth_ok (cc : Cc (L.gx K c) X W) : ∀ ci, st_depth ci = true → FieldS (L.gx K c) X "depth" ci := fun ci h => by
    unfold st_depth at h
    split at h
    · exact fieldS c 1 49 rfl rfl cc.k
    · cases h
theorem st_form_ok (cc : Cc (L.gx K c) X W) : ∀ ci, st_form ci = true → FieldS (L.gx K c) X "form" ci := fun ci h => by
    unfold st_form at h
    split at h
    · exact fieldS c 0 50 rfl rfl cc.k
    · cases h
theorem st_tokens_ok (cc : Cc (L.gx K c) X W) : ∀ ci, st_tokens ci = true → FieldS (L.gx K c) X "tokens" ci := fun ci h => by
    unfold st_tokens at h
    split at h
    · exact fieldS c 1 51 rfl rfl cc.k
    · cases h
variable {P : Program} {w : World} {mg : Str → Option Value} {base : Heap}
theorem sc_0 : FnScope ["self", "value"] ["self", "value"] (defScope s_0) := ⟨rfl, rfl, rfl, by decide +kernel, rfl, by decide +kernel, by decide +kernel⟩
theorem xi_0 {c : L.Says K} : XInit P w K mg base "InvalidText" "value" := by
  obtain ⟨M⟩ := c.fn 0 rfl
  have hv : M.dvs = [] := List.eq_nil_of_length_eq_zero (by rw [← (M.rd ⟨[], []⟩ fun _ => none).length]; rfl)
  exact ⟨M.fd, ["self", "value"], xi_ok (K := K) (k := 0) M.F sc_0 (Or.inl rfl) (Or.inl rfl), FunD.bindsN (K := K) (ps := ["self", "value"]) (hv ▸ M.F) fun _ _ _ _ _ _ us hl => match us, hl with | [_, _], _ => rfl⟩
theorem sc_1 : FnScope ["self", "name"] ["self", "name"] (defScope s_1) := ⟨rfl, rfl, rfl, by decide +kernel, rfl, by decide +kernel, by decide +kernel⟩
theorem xi_1 {c : L.Says K} : XInit P w K mg base "UnknownName" "name" := by
  obtain ⟨M⟩ := c.fn 1 rfl
  have hv : M.dvs = [] := List.eq_nil_of_length_eq_zero (by rw [← (M.rd ⟨[], []⟩ fun _ => none).length]; rfl)
  exact ⟨M.fd, ["self", "name"], xi_ok (K := K) (k := 0) M.F sc_1 (Or.inl rfl) (Or.inl rfl), FunD.bindsN (K := K) (ps := ["self", "name"]) (hv ▸ M.F) fun _ _ _ _ _ _ us hl => match us, hl with | [_, _], _ => rfl⟩
theorem sc_2 : FnScope ["self", "word"] ["self", "word"] (defScope s_2) := ⟨rfl, rfl, rfl, by decide +kernel, rfl, by decide +kernel, by decide +kernel⟩
theorem xi_2 {c : L.Says K} : XInit P w K mg base "TooLarge" "word" := by
  obtain ⟨M⟩ := c.fn 2 rfl
  have hv : M.dvs = [] := List.eq_nil_of_length_eq_zero (by rw [← (M.rd ⟨[], []⟩ fun _ => none).length]; rfl)
  exact ⟨M.fd, ["self", "word"], xi_ok (K := K) (k := 0) M.F sc_2 (Or.inl rfl) (Or.inl rfl), FunD.bindsN (K := K) (ps := ["self", "word"]) (hv ▸ M.F) fun _ _ _ _ _ _ us hl => match us, hl with | [_, _], _ => rfl⟩
theorem sc_3 : FnScope ["self", "position"] ["self", "position"] (defScope s_3) := ⟨rfl, rfl, rfl, by decide +kernel, rfl, by decide +kernel, by decide +kernel⟩
theorem xi_3 {c : L.Says K} : XInit P w K mg base "InvalidQuestion" "position" := by
  obtain ⟨M⟩ := c.fn 3 rfl
  have hv : M.dvs = [] := List.eq_nil_of_length_eq_zero (by rw [← (M.rd ⟨[], []⟩ fun _ => none).length]; rfl)
  exact ⟨M.fd, ["self", "position"], xi_ok (K := K) (k := 0) M.F sc_3 (Or.inl rfl) (Or.inl rfl), FunD.bindsN (K := K) (ps := ["self", "position"]) (hv ▸ M.F) fun _ _ _ _ _ _ us hl => match us, hl with | [_, _], _ => rfl⟩
abbrev N_4 : List Str := ["word", "keywords", "char"]
theorem sc_4 : FnScope N_4 ["word", "keywords"] (defScope s_4) := ⟨rfl, rfl, rfl, by decide +kernel, rfl, by decide +kernel, by decide +kernel⟩
theorem ok_4 (NS : Ns K mg) (HD : HDk hdn K w) (n : Nat) (ih : IH c P w mg base n) (M : FnM (L.gx K c) ⟨.g "kind_of", "kind_of", "kind_of", s_4, []⟩) : FnOk P w (L.gx K c).K mg base (L2.CX P w) (lv n + 1 + 1) ((.g "kind_of" : Pth).ad (L.gx K c).K) M.fd ["word", "keywords"] (spF (L.gx K c) (bodyRun N_4.length (m_4 (run n))) (["word", "keywords"] : List Str).length) := by
  refine fnd_ok (G := L.gx K c) (k := lv n + 1) (ms := m_4 (run n)) M.F sc_4 fun cdv A outer s H E hr cc => ?_
  exact sss_cons (ss_if (st_cmp (ops_in cc) (se_var 0) (se_var 1)) (sss_one (ss_ret (se_str [109, 97, 114, 107]))) (sss_nil))
    (sss_cons (ss_if (st_cmp (ops_in cc) (se_ix (ixs_item cc) (se_var 0) (se_int)) (se_con c NS 1 rfl rfl)) (sss_one (ss_ret (se_str [110, 97, 109, 101]))) (sss_nil))
    (sss_cons (ss_for 100000 cc (si_or (si_seq cc (se_var 0)) (si_txt (se_var 0))) (sg_name cc.nd rfl (by first | exact Or.inl rfl | exact Or.inr rfl)) (sss_one (ss_if (st_cmp (ops_notIn cc) (se_var 2) (se_con c NS 2 rfl rfl)) (sss_one (ss_ret (se_str [98, 97, 100]))) (sss_nil))))
    (sss_cons (ss_if (st_w (sw_and (st_cmp (oEq_ok cc hr ih) (se_ix (ixs_item cc) (se_var 0) (se_int)) (se_str [48])) (sw_and1 (st_cmp ops_gt (se_callB (fns_len cc) rfl (NS.free c 3) (by decide +kernel) (sa_cons (se_var 0) (sa_nil))) (se_int))))) (sss_one (ss_ret (se_str [98, 97, 100]))) (sss_nil))
    (sss_one (ss_ret (se_str [110, 117, 109, 98, 101, 114]))))))
theorem cal_4 (NS : Ns K mg) (HD : HDk hdn K w) (n : Nat) (ih : IH c P w mg base n) : Cal (L.gx K c) P w mg base (lv (n + 1)) ((.g "kind_of" : Pth).ad K) (run (n + 1) 4) := by
  obtain ⟨M⟩ := c.fn 4 rfl
  have hv : M.dvs = [] := List.eq_nil_of_length_eq_zero (by rw [← (M.rd ⟨[], []⟩ fun _ => none).length]; rfl)
  exact cal_defD (ok_4 NS HD n ih M) rfl (fun j hj => ⟨[], by rw [hv]; cases j <;> exact .nil, FunD.bindsN (ps := ["word", "keywords"]) (hv ▸ M.F) fun _ _ _ _ _ _ us hl => match us, hl with | [_, _], _ => rfl⟩) M.rd
abbrev N_5 : List Str := ["text", "start", "at"]
theorem sc_5 : FnScope N_5 ["text", "start"] (defScope s_5) := ⟨rfl, rfl, rfl, by decide +kernel, rfl, by decide +kernel, by decide +kernel⟩
theorem ok_5 (NS : Ns K mg) (HD : HDk hdn K w) (n : Nat) (ih : IH c P w mg base n) (M : FnM (L.gx K c) ⟨.g "end_of_run", "end_of_run", "end_of_run", s_5, []⟩) : FnOk P w (L.gx K c).K mg base (L2.CX P w) (lv n + 1 + 1) ((.g "end_of_run" : Pth).ad (L.gx K c).K) M.fd ["text", "start"] (spF (L.gx K c) (bodyRun N_5.length (m_5 (run n))) (["text", "start"] : List Str).length) := by
  refine fnd_ok (G := L.gx K c) (k := lv n + 1) (ms := m_5 (run n)) M.F sc_5 fun cdv A outer s H E hr cc => ?_
  exact sss_cons (ss_set (i := 2) cc.nd rfl (by first | exact Or.inl rfl | exact Or.inr rfl) (se_var 1))
    (sss_cons (ss_while 100000 cc (st_w (sw_and (st_cmp ops_lt (se_var 2) (se_callB (fns_len cc) rfl (NS.free c 3) (by decide +kernel) (sa_cons (se_var 0) (sa_nil)))) (sw_and1 (st_w (sw_or (st_cmp (ops_in cc) (se_ix (ixs_item cc) (se_var 0) (se_var 2)) (se_con c NS 1 rfl rfl)) (sw_or1 (st_cmp (ops_in cc) (se_ix (ixs_item cc) (se_var 0) (se_var 2)) (se_con c NS 2 rfl rfl)))))))) (sss_one (ss_augA (i := 2) cc rfl (by first | exact Or.inl rfl | exact Or.inr rfl) (se_int))))
    (sss_one (ss_ret (se_var 2))))
theorem cal_5 (NS : Ns K mg) (HD : HDk hdn K w) (n : Nat) (ih : IH c P w mg base n) : Cal (L.gx K c) P w mg base (lv (n + 1)) ((.g "end_of_run" : Pth).ad K) (run (n + 1) 5) := by
  obtain ⟨M⟩ := c.fn 5 rfl
  have hv : M.dvs = [] := List.eq_nil_of_length_eq_zero (by rw [← (M.rd ⟨[], []⟩ fun _ => none).length]; rfl)
  exact cal_defD (ok_5 NS HD n ih M) rfl (fun j hj => ⟨[], by rw [hv]; cases j <;> exact .nil, FunD.bindsN (ps := ["text", "start"]) (hv ▸ M.F) fun _ _ _ _ _ _ us hl => match us, hl with | [_, _], _ => rfl⟩) M.rd
abbrev N_6 : List Str := ["text", "signs", "keywords", "found", "at", "stop"]
theorem sc_6 : FnScope N_6 ["text", "signs", "keywords"] (defScope s_6) := ⟨rfl, rfl, rfl, by decide +kernel, rfl, by decide +kernel, by decide +kernel⟩
theorem ok_6 (NS : Ns K mg) (HD : HDk hdn K w) (n : Nat) (ih : IH c P w mg base n) (M : FnM (L.gx K c) ⟨.g "tokens_of", "tokens_of", "tokens_of", s_6, [(.str [123, 125, 91, 93, 43, 45, 42]), (.kt [(.str [97, 114, 114, 97, 121]), (.str [102, 111, 114]), (.str [114, 101, 97, 100]), (.str [119, 114, 105, 116, 101]), (.str [102, 108, 117, 115, 104]), (.str [110])])]⟩) : FnOk P w (L.gx K c).K mg base (L2.CX P w) (lv n + 1 + 1) ((.g "tokens_of" : Pth).ad (L.gx K c).K) M.fd ["text", "signs", "keywords"] (spF (L.gx K c) (bodyRun N_6.length (m_6 (run n))) (["text", "signs", "keywords"] : List Str).length) := by
  refine fnd_ok (G := L.gx K c) (k := lv n + 1) (ms := m_6 (run n)) M.F sc_6 fun cdv A outer s H E hr cc => ?_
  exact sss_cons (ss_set (i := 3) cc.nd rfl (by first | exact Or.inl rfl | exact Or.inr rfl) (se_lst (sa_nil) (szl rfl)))
    (sss_cons (ss_set (i := 4) cc.nd rfl (by first | exact Or.inl rfl | exact Or.inr rfl) (se_int))
    (sss_cons (ss_while 100000 cc (st_cmp ops_lt (se_var 4) (se_callB (fns_len cc) rfl (NS.free c 3) (by decide +kernel) (sa_cons (se_var 0) (sa_nil)))) (sss_one (ss_if (st_cmp (ops_in cc) (se_ix (ixs_item cc) (se_var 0) (se_var 4)) (se_tup (sa_cons (se_str [32]) (sa_cons (se_str [10]) (sa_nil))) (szl rfl))) (sss_one (ss_augA (i := 4) cc rfl (by first | exact Or.inl rfl | exact Or.inr rfl) (se_int))) (sss_one (ss_if (st_cmp (ops_in cc) (se_ix (ixs_item cc) (se_var 0) (se_var 4)) (se_var 1)) (sss_cons (ss_expr (se_bm PySem.F.plainAttrs_list PySem.F.slot_list_append PySem.F.type_list_append mts_append (ck_list cc) (se_var 3) (sa_cons (se_tup (sa_cons (se_str [109, 97, 114, 107]) (sa_cons (se_ix (ixs_item cc) (se_var 0) (se_var 4)) (sa_cons (se_var 4) (sa_nil)))) (szl rfl)) (sa_nil))))
    (sss_one (ss_augA (i := 4) cc rfl (by first | exact Or.inl rfl | exact Or.inr rfl) (se_int)))) (sss_cons (ss_set (i := 5) cc.nd rfl (by first | exact Or.inl rfl | exact Or.inr rfl) (se_call (fns_cal cc (ih.1 5 rfl rfl) (hr.mono (Nat.le_succ _))) rfl (NS.glo c 4) (keep_of c 4) (sa_cons (se_var 0) (sa_cons (se_var 4) (sa_nil)))))
    (sss_cons (ss_if (st_w (sw_or (st_cmp (oEq_ok cc hr ih) (se_var 5) (se_var 4)) (sw_or1 (st_cmp (oEq_ok cc hr ih) (se_call (fns_cal cc (ih.1 4 rfl rfl) (hr.mono (Nat.le_succ _))) rfl (NS.glo c 5) (keep_of c 5) (sa_cons (se_slice cc (se_var 0) (so_some (se_var 4)) (so_some (se_var 5))) (sa_cons (se_var 2) (sa_nil)))) (se_str [98, 97, 100]))))) (sss_cons (ss_expr (se_bm PySem.F.plainAttrs_list PySem.F.slot_list_append PySem.F.type_list_append mts_append (ck_list cc) (se_var 3) (sa_cons (se_tup (sa_cons (se_str [98, 97, 100]) (sa_cons (se_str []) (sa_cons (se_var 4) (sa_nil)))) (szl rfl)) (sa_nil))))
    (sss_one (ss_ret (se_var 3)))) (sss_nil))
    (sss_cons (ss_expr (se_bm PySem.F.plainAttrs_list PySem.F.slot_list_append PySem.F.type_list_append mts_append (ck_list cc) (se_var 3) (sa_cons (se_tup (sa_cons (se_call (fns_cal cc (ih.1 4 rfl rfl) (hr.mono (Nat.le_succ _))) rfl (NS.glo c 5) (keep_of c 5) (sa_cons (se_slice cc (se_var 0) (so_some (se_var 4)) (so_some (se_var 5))) (sa_cons (se_var 2) (sa_nil)))) (sa_cons (se_slice cc (se_var 0) (so_some (se_var 4)) (so_some (se_var 5))) (sa_cons (se_var 4) (sa_nil)))) (szl rfl)) (sa_nil))))
    (sss_one (ss_set (i := 4) cc.nd rfl (by first | exact Or.inl rfl | exact Or.inr rfl) (se_var 5)))))))))))
    (sss_cons (ss_expr (se_bm PySem.F.plainAttrs_list PySem.F.slot_list_append PySem.F.type_list_append mts_append (ck_list cc) (se_var 3) (sa_cons (se_tup (sa_cons (se_str [101, 110, 100]) (sa_cons (se_str []) (sa_cons (se_callB (fns_len cc) rfl (NS.free c 3) (by decide +kernel) (sa_cons (se_var 0) (sa_nil))) (sa_nil)))) (szl rfl)) (sa_nil))))
    (sss_one (ss_ret (se_var 3))))))
theorem cal_6 (NS : Ns K mg) (HD : HDk hdn K w) (n : Nat) (ih : IH c P w mg base n) : Cal (L.gx K c) P w mg base (lv (n + 1)) ((.g "tokens_of" : Pth).ad K) (run (n + 1) 6) := by
  obtain ⟨M⟩ := c.fn 6 rfl
  have hv : M.dvs.length = 2 := by rw [← (M.rd ⟨[], []⟩ fun _ => none).length]; rfl
  have hne : M.dvs ≠ [] := fun e => by rw [e] at hv; cases hv
  exact cal_defD (ok_6 NS HD n ih M) rfl (fun j hj => by
    rw [hv] at hj
    match j, hj with
    | 0, _ => exact FunD.binds1 M.F 1 0 hne (by rw [hv]; rfl) fun _ _ _ _ _ _ _ us its hl hi => match us, hl, its, (hi.trans hv) with | [_], _, [_, _], _ => ⟨_, rfl, rfl⟩
    | 1, _ => exact FunD.binds1 M.F 2 1 hne (by rw [hv]; rfl) fun _ _ _ _ _ _ _ us its hl hi => match us, hl, its, (hi.trans hv) with | [_, _], _, [_, _], _ => ⟨_, rfl, rfl⟩
    | 2, _ => exact FunD.binds1 M.F 3 2 hne (by rw [hv]; rfl) fun _ _ _ _ _ _ _ us its hl hi => match us, hl, its, (hi.trans hv) with | [_, _, _], _, [_, _], _ => ⟨_, rfl, rfl⟩
    | k + 3, h => exact absurd h (by omega)) M.rd
abbrev N_7 : List Str := ["self", "form"]
theorem sc_7 : FnScope N_7 ["self", "form"] (defScope s_7) := ⟨rfl, rfl, rfl, by decide +kernel, rfl, by decide +kernel, by decide +kernel⟩
theorem ok_7 (NS : Ns K mg) (HD : HDk hdn K w) (n : Nat) (ih : IH c P w mg base n) (M : FnM (L.gx K c) ⟨.m "Condition" "__init__", "__init__", "Condition.__init__", s_7, []⟩) : FnOk P w (L.gx K c).K mg base (L2.CX P w) (lv n + 1 + 1) ((.m "Condition" "__init__" : Pth).ad (L.gx K c).K) M.fd ["self", "form"] (spF (L.gx K c) (bodyRun N_7.length (m_7 (run n))) (["self", "form"] : List Str).length) := by
  refine fnd_ok (G := L.gx K c) (k := lv n + 1) (ms := m_7 (run n)) M.F sc_7 fun cdv A outer s H E hr cc => ?_
  exact sss_one (ss_fld cc (se_var 0) (se_var 1) rfl (st_form_ok cc))
theorem cal_7 (NS : Ns K mg) (HD : HDk hdn K w) (n : Nat) (ih : IH c P w mg base n) : Cal (L.gx K c) P w mg base (lv (n + 1)) ((.m "Condition" "__init__" : Pth).ad K) (run (n + 1) 7) := by
  obtain ⟨M⟩ := c.fn 7 rfl
  have hv : M.dvs = [] := List.eq_nil_of_length_eq_zero (by rw [← (M.rd ⟨[], []⟩ fun _ => none).length]; rfl)
  exact cal_defD (ok_7 NS HD n ih M) rfl (fun j hj => ⟨[], by rw [hv]; cases j <;> exact .nil, FunD.bindsN (ps := ["self", "form"]) (hv ▸ M.F) fun _ _ _ _ _ _ us hl => match us, hl with | [_, _], _ => rfl⟩) M.rd
abbrev N_8 : List Str := ["self"]
theorem sc_8 : FnScope N_8 ["self"] (defScope s_8) := ⟨rfl, rfl, rfl, by decide +kernel, rfl, by decide +kernel, by decide +kernel⟩
theorem ok_8 (NS : Ns K mg) (HD : HDk hdn K w) (n : Nat) (ih : IH c P w mg base n) (M : FnM (L.gx K c) ⟨.m "Condition" "parts", "parts", "Condition.parts", s_8, []⟩) : FnOk P w (L.gx K c).K mg base (L2.CX P w) (lv n + 1 + 1) ((.m "Condition" "parts" : Pth).ad (L.gx K c).K) M.fd ["self"] (spF (L.gx K c) (bodyRun N_8.length (m_8 (run n))) (["self"] : List Str).length) := by
  refine fnd_ok (G := L.gx K c) (k := lv n + 1) (ms := m_8 (run n)) M.F sc_8 fun cdv A outer s H E hr cc => ?_
  exact sss_one (ss_ret (se_attr cc (se_var 0) rfl (at_form_f cc) (at_form_p cc hr ih)))
theorem cal_8 (NS : Ns K mg) (HD : HDk hdn K w) (n : Nat) (ih : IH c P w mg base n) : Cal (L.gx K c) P w mg base (lv (n + 1)) ((.m "Condition" "parts" : Pth).ad K) (run (n + 1) 8) := by
  obtain ⟨M⟩ := c.fn 8 rfl
  have hv : M.dvs = [] := List.eq_nil_of_length_eq_zero (by rw [← (M.rd ⟨[], []⟩ fun _ => none).length]; rfl)
  exact cal_defD (ok_8 NS HD n ih M) rfl (fun j hj => ⟨[], by rw [hv]; cases j <;> exact .nil, FunD.bindsN (ps := ["self"]) (hv ▸ M.F) fun _ _ _ _ _ _ us hl => match us, hl with | [_], _ => rfl⟩) M.rd
abbrev N_10 : List Str := ["self", "other"]
theorem sc_10 : FnScope N_10 ["self", "other"] (defScope s_10) := ⟨rfl, rfl, rfl, by decide +kernel, rfl, by decide +kernel, by decide +kernel⟩
theorem ok_10 (NS : Ns K mg) (HD : HDk hdn K w) (n : Nat) (ih : IH c P w mg base n) (M : FnM (L.gx K c) ⟨.m "Condition" "__and__", "__and__", "Condition.__and__", s_10, []⟩) : FnOk P w (L.gx K c).K mg base (L2.CX P w) (lv n + 1 + 1) ((.m "Condition" "__and__" : Pth).ad (L.gx K c).K) M.fd ["self", "other"] (spF (L.gx K c) (bodyRun N_10.length (m_10 (run n))) (["self", "other"] : List Str).length) := by
  refine fnd_ok (G := L.gx K c) (k := lv n + 1) (ms := m_10 (run n)) M.F sc_10 fun cdv A outer s H E hr cc => ?_
  exact sss_one (ss_ret (se_call (fns_make cc (cls_of c 0 rfl) (mk_of c 7 rfl) (ih.1 7 rfl rfl) hr) rfl (NS.glo c 6) (keep_of c 6) (sa_cons (se_tup (sa_cons (se_str [97, 110, 100]) (sa_cons (se_var 0) (sa_cons (se_var 1) (sa_nil)))) (szl rfl)) (sa_nil))))
theorem cal_10 (NS : Ns K mg) (HD : HDk hdn K w) (n : Nat) (ih : IH c P w mg base n) : Cal (L.gx K c) P w mg base (lv (n + 1)) ((.m "Condition" "__and__" : Pth).ad K) (run (n + 1) 10) := by
  obtain ⟨M⟩ := c.fn 10 rfl
  have hv : M.dvs = [] := List.eq_nil_of_length_eq_zero (by rw [← (M.rd ⟨[], []⟩ fun _ => none).length]; rfl)
  exact cal_defD (ok_10 NS HD n ih M) rfl (fun j hj => ⟨[], by rw [hv]; cases j <;> exact .nil, FunD.bindsN (ps := ["self", "other"]) (hv ▸ M.F) fun _ _ _ _ _ _ us hl => match us, hl with | [_, _], _ => rfl⟩) M.rd
abbrev N_11 : List Str := ["self", "other"]
theorem sc_11 : FnScope N_11 ["self", "other"] (defScope s_11) := ⟨rfl, rfl, rfl, by decide +kernel, rfl, by decide +kernel, by decide +kernel⟩
theorem ok_11 (NS : Ns K mg) (HD : HDk hdn K w) (n : Nat) (ih : IH c P w mg base n) (M : FnM (L.gx K c) ⟨.m "Condition" "__or__", "__or__", "Condition.__or__", s_11, []⟩) : FnOk P w (L.gx K c).K mg base (L2.CX P w) (lv n + 1 + 1) ((.m "Condition" "__or__" : Pth).ad (L.gx K c).K) M.fd ["self", "other"] (spF (L.gx K c) (bodyRun N_11.length (m_11 (run n))) (["self", "other"] : List Str).length) := by
  refine fnd_ok (G := L.gx K c) (k := lv n + 1) (ms := m_11 (run n)) M.F sc_11 fun cdv A outer s H E hr cc => ?_
  exact sss_one (ss_ret (se_call (fns_make cc (cls_of c 0 rfl) (mk_of c 7 rfl) (ih.1 7 rfl rfl) hr) rfl (NS.glo c 6) (keep_of c 6) (sa_cons (se_tup (sa_cons (se_str [111, 114]) (sa_cons (se_var 0) (sa_cons (se_var 1) (sa_nil)))) (szl rfl)) (sa_nil))))
theorem cal_11 (NS : Ns K mg) (HD : HDk hdn K w) (n : Nat) (ih : IH c P w mg base n) : Cal (L.gx K c) P w mg base (lv (n + 1)) ((.m "Condition" "__or__" : Pth).ad K) (run (n + 1) 11) := by
  obtain ⟨M⟩ := c.fn 11 rfl
  have hv : M.dvs = [] := List.eq_nil_of_length_eq_zero (by rw [← (M.rd ⟨[], []⟩ fun _ => none).length]; rfl)
  exact cal_defD (ok_11 NS HD n ih M) rfl (fun j hj => ⟨[], by rw [hv]; cases j <;> exact .nil, FunD.bindsN (ps := ["self", "other"]) (hv ▸ M.F) fun _ _ _ _ _ _ us hl => match us, hl with | [_, _], _ => rfl⟩) M.rd
abbrev N_12 : List Str := ["self"]
theorem sc_12 : FnScope N_12 ["self"] (defScope s_12) := ⟨rfl, rfl, rfl, by decide +kernel, rfl, by decide +kernel, by decide +kernel⟩
theorem ok_12 (NS : Ns K mg) (HD : HDk hdn K w) (n : Nat) (ih : IH c P w mg base n) (M : FnM (L.gx K c) ⟨.m "Condition" "__invert__", "__invert__", "Condition.__invert__", s_12, []⟩) : FnOk P w (L.gx K c).K mg base (L2.CX P w) (lv n + 1 + 1) ((.m "Condition" "__invert__" : Pth).ad (L.gx K c).K) M.fd ["self"] (spF (L.gx K c) (bodyRun N_12.length (m_12 (run n))) (["self"] : List Str).length) := by
  refine fnd_ok (G := L.gx K c) (k := lv n + 1) (ms := m_12 (run n)) M.F sc_12 fun cdv A outer s H E hr cc => ?_
  exact sss_one (ss_ret (se_call (fns_make cc (cls_of c 0 rfl) (mk_of c 7 rfl) (ih.1 7 rfl rfl) hr) rfl (NS.glo c 6) (keep_of c 6) (sa_cons (se_tup (sa_cons (se_str [110, 111, 116]) (sa_cons (se_var 0) (sa_nil))) (szl rfl)) (sa_nil))))
theorem cal_12 (NS : Ns K mg) (HD : HDk hdn K w) (n : Nat) (ih : IH c P w mg base n) : Cal (L.gx K c) P w mg base (lv (n + 1)) ((.m "Condition" "__invert__" : Pth).ad K) (run (n + 1) 12) := by
  obtain ⟨M⟩ := c.fn 12 rfl
  have hv : M.dvs = [] := List.eq_nil_of_length_eq_zero (by rw [← (M.rd ⟨[], []⟩ fun _ => none).length]; rfl)
  exact cal_defD (ok_12 NS HD n ih M) rfl (fun j hj => ⟨[], by rw [hv]; cases j <;> exact .nil, FunD.bindsN (ps := ["self"]) (hv ▸ M.F) fun _ _ _ _ _ _ us hl => match us, hl with | [_], _ => rfl⟩) M.rd
abbrev N_13 : List Str := ["self", "other"]
theorem sc_13 : FnScope N_13 ["self", "other"] (defScope s_13) := ⟨rfl, rfl, rfl, by decide +kernel, rfl, by decide +kernel, by decide +kernel⟩
theorem ok_13 (NS : Ns K mg) (HD : HDk hdn K w) (n : Nat) (ih : IH c P w mg base n) (M : FnM (L.gx K c) ⟨.m "Condition" "__eq__", "__eq__", "Condition.__eq__", s_13, []⟩) : FnOk P w (L.gx K c).K mg base (L2.CX P w) (lv n + 1 + 1) ((.m "Condition" "__eq__" : Pth).ad (L.gx K c).K) M.fd ["self", "other"] (spF (L.gx K c) (bodyRun N_13.length (m_13 (run n))) (["self", "other"] : List Str).length) := by
  refine fnd_ok (G := L.gx K c) (k := lv n + 1) (ms := m_13 (run n)) M.F sc_13 fun cdv A outer s H E hr cc => ?_
  exact sss_one (ss_ret (se_and (se_callB (fns_isi cc) rfl (NS.free c 8) (by decide +kernel) (sa_cons (se_var 1) (sa_cons (se_cls rfl (NS.glo c 6) (cls_of c 0 rfl)) (sa_nil)))) (se_one (se_cmp (oEq_ok cc hr ih) (se_attr cc (se_var 0) rfl (at_form_f cc) (at_form_p cc hr ih)) (se_attr cc (se_var 1) rfl (at_form_f cc) (at_form_p cc hr ih))))))
theorem cal_13 (NS : Ns K mg) (HD : HDk hdn K w) (n : Nat) (ih : IH c P w mg base n) : Cal (L.gx K c) P w mg base (lv (n + 1)) ((.m "Condition" "__eq__" : Pth).ad K) (run (n + 1) 13) := by
  obtain ⟨M⟩ := c.fn 13 rfl
  have hv : M.dvs = [] := List.eq_nil_of_length_eq_zero (by rw [← (M.rd ⟨[], []⟩ fun _ => none).length]; rfl)
  exact cal_defD (ok_13 NS HD n ih M) rfl (fun j hj => ⟨[], by rw [hv]; cases j <;> exact .nil, FunD.bindsN (ps := ["self", "other"]) (hv ▸ M.F) fun _ _ _ _ _ _ us hl => match us, hl with | [_, _], _ => rfl⟩) M.rd
abbrev N_14 : List Str := ["wanted", "found", "word", "atom"]
theorem sc_14 : FnScope N_14 ["wanted"] (defScope s_14) := ⟨rfl, rfl, rfl, by decide +kernel, rfl, by decide +kernel, by decide +kernel⟩
theorem ok_14 (NS : Ns K mg) (HD : HDk hdn K w) (n : Nat) (ih : IH c P w mg base n) : ∀ kn ∈ kwl_0, CalK (L.gx K c) P w mg base (lv n + 1 + 1) (He.ga K "where") kn (bodyRun N_14.length (m_14 (run n))) := by
  obtain ⟨M⟩ := c.fn 14 rfl
  have hv : M.dvs = [] := List.eq_nil_of_length_eq_zero (by rw [← (M.rd ⟨[], []⟩ fun _ => none).length]; rfl)
  have go : ∀ (cdv : Value) (A : Around) (outer : List Env) (s : Shared) (H : Hp) (E : XK), Room (lv n + 1) (A.deeper (envOfC "where" (defScope s_14) s.heap.objs.size (He.ga K "where") cdv)) → Cc (L.gx K c) (cxOf (L2.CX P w) P w (L.gx K c).K mg base N_14 "where" (defScope s_14) (He.ga K "where") cdv A outer s H E) (WF E) → SSs (L.gx K c) (cxOf (L2.CX P w) P w (L.gx K c).K mg base N_14 "where" (defScope s_14) (He.ga K "where") cdv A outer s H E) (WF E) (defBody s_14) (m_14 (run n)) := fun cdv A outer s H E hr cc => sss_cons (ss_set (i := 1) cc.nd rfl (by first | exact Or.inl rfl | exact Or.inr rfl) (se_non))
    (sss_cons (ss_lockX 0 (ss_for 100000 cc (si_ky (se_var 0)) (sg_name cc.nd rfl (by first | exact Or.inl rfl | exact Or.inr rfl)) (sss_cons (ss_if (st_cmp (ops_notIn cc) (se_var 2) (se_con c NS 9 rfl rfl)) (sss_one (ss_raiseL 2 1 10 11 12 cc NS rfl rfl rfl rfl rfl (xi_1 (c := c)) (hr.mono (two_le _)) rfl (se_var 2))) (sss_nil))
    (sss_cons (ss_set (i := 3) cc.nd rfl (by first | exact Or.inl rfl | exact Or.inr rfl) (se_call (fns_make cc (cls_of c 0 rfl) (mk_of c 7 rfl) (ih.1 7 rfl rfl) hr) rfl (NS.glo c 6) (keep_of c 6) (sa_cons (se_tup (sa_cons (se_var 2) (sa_cons (se_dgetL (hu_of hr) (se_var 0) (se_var 2)) (sa_nil))) (szl rfl)) (sa_nil))))
    (sss_one (ss_set (i := 1) cc.nd rfl (by first | exact Or.inl rfl | exact Or.inr rfl) (se_if (st_cmp ops_is (se_var 1) (se_non)) (se_var 3) (se_bin (oBitAnd_ok cc hr ih) (se_var 1) (se_var 3)))))))))
    (sss_one (ss_ret (se_if (st_cmp ops_is (se_var 1) (se_non)) (se_call (fns_make cc (cls_of c 0 rfl) (mk_of c 7 rfl) (ih.1 7 rfl rfl) hr) rfl (NS.glo c 6) (keep_of c 6) (sa_cons (se_tup (sa_cons (se_str [97, 110, 121]) (sa_nil)) (szl rfl)) (sa_nil))) (se_var 1)))))
  exact List.forall_mem_cons.2 ⟨calK_of (kn := [[107, 105, 110, 100]]) (hv ▸ M.F) sc_14 (by decide +kernel) (by decide) (fun _ _ _ _ _ _ us hl => match us, hl with | [_], _ => by kernel_rfl) go, List.forall_mem_cons.2 ⟨calK_of (kn := [[108, 101, 118, 101, 108]]) (hv ▸ M.F) sc_14 (by decide +kernel) (by decide) (fun _ _ _ _ _ _ us hl => match us, hl with | [_], _ => by kernel_rfl) go, List.forall_mem_cons.2 ⟨calK_of (kn := [[97, 99, 99, 101, 115, 115]]) (hv ▸ M.F) sc_14 (by decide +kernel) (by decide) (fun _ _ _ _ _ _ us hl => match us, hl with | [_], _ => by kernel_rfl) go, List.forall_mem_cons.2 ⟨calK_of (kn := [[111, 116, 104, 101, 114]]) (hv ▸ M.F) sc_14 (by decide +kernel) (by decide) (fun _ _ _ _ _ _ us hl => match us, hl with | [_], _ => by kernel_rfl) go, List.forall_mem_cons.2 ⟨calK_of (kn := [[97, 114, 114, 97, 121]]) (hv ▸ M.F) sc_14 (by decide +kernel) (by decide) (fun _ _ _ _ _ _ us hl => match us, hl with | [_], _ => by kernel_rfl) go, List.forall_mem_cons.2 ⟨calK_of (kn := [[119, 111, 114, 100]]) (hv ▸ M.F) sc_14 (by decide +kernel) (by decide) (fun _ _ _ _ _ _ us hl => match us, hl with | [_], _ => by kernel_rfl) go, List.forall_mem_cons.2 ⟨calK_of (kn := []) (hv ▸ M.F) sc_14 (by decide +kernel) (by decide) (fun _ _ _ _ _ _ us hl => match us, hl with | [], _ => by kernel_rfl) go, fun _ h => (List.not_mem_nil h).elim⟩⟩⟩⟩⟩⟩⟩
abbrev N_15 : List Str := ["self", "text"]
theorem sc_15 : FnScope N_15 ["self", "text"] (defScope s_15) := ⟨rfl, rfl, rfl, by decide +kernel, rfl, by decide +kernel, by decide +kernel⟩
theorem ok_15 (NS : Ns K mg) (HD : HDk hdn K w) (n : Nat) (ih : IH c P w mg base n) (M : FnM (L.gx K c) ⟨.m "QuestionReader" "__init__", "__init__", "QuestionReader.__init__", s_15, []⟩) : FnOk P w (L.gx K c).K mg base (L2.CX P w) (lv n + 1 + 1) ((.m "QuestionReader" "__init__" : Pth).ad (L.gx K c).K) M.fd ["self", "text"] (spF (L.gx K c) (bodyRun N_15.length (m_15 (run n))) (["self", "text"] : List Str).length) := by
  refine fnd_ok (G := L.gx K c) (k := lv n + 1) (ms := m_15 (run n)) M.F sc_15 fun cdv A outer s H E hr cc => ?_
  exact sss_cons (ss_if (st_not (st_tru cc (se_callB (fns_isi cc) rfl (NS.free c 8) (by decide +kernel) (sa_cons (se_var 1) (sa_cons (se_bltn rfl (NS.free c 13) (by decide +kernel)) (sa_nil)))))) (sss_one (ss_raiseL 1 2 14 15 16 cc NS rfl rfl rfl rfl rfl (xi_0 (c := c)) (hr.mono (two_le _)) rfl (se_var 1))) (sss_nil))
    (sss_cons (ss_fld cc (se_var 0) (se_call (fns_cal cc (ih.1 6 rfl rfl) (hr.mono (Nat.le_succ _))) rfl (NS.glo c 18) (keep_of c 18) (sa_cons (se_var 1) (sa_cons (se_bin (oAdd_ok cc hr ih) (se_con c NS 17 rfl rfl) (se_str [40, 41])) (sa_nil)))) rfl (st_tokens_ok cc))
    (sss_cons (ss_fld cc (se_var 0) (se_int) rfl (st_at_ok cc))
    (sss_one (ss_fld cc (se_var 0) (se_int) rfl (st_depth_ok cc)))))
theorem cal_15 (NS : Ns K mg) (HD : HDk hdn K w) (n : Nat) (ih : IH c P w mg base n) : Cal (L.gx K c) P w mg base (lv (n + 1)) ((.m "QuestionReader" "__init__" : Pth).ad K) (run (n + 1) 15) := by
  obtain ⟨M⟩ := c.fn 15 rfl
  have hv : M.dvs = [] := List.eq_nil_of_length_eq_zero (by rw [← (M.rd ⟨[], []⟩ fun _ => none).length]; rfl)
  exact cal_defD (ok_15 NS HD n ih M) rfl (fun j hj => ⟨[], by rw [hv]; cases j <;> exact .nil, FunD.bindsN (ps := ["self", "text"]) (hv ▸ M.F) fun _ _ _ _ _ _ us hl => match us, hl with | [_, _], _ => rfl⟩) M.rd
abbrev N_16 : List Str := ["self"]
theorem sc_16 : FnScope N_16 ["self"] (defScope s_16) := ⟨rfl, rfl, rfl, by decide +kernel, rfl, by decide +kernel, by decide +kernel⟩
theorem ok_16 (NS : Ns K mg) (HD : HDk hdn K w) (n : Nat) (ih : IH c P w mg base n) (M : FnM (L.gx K c) ⟨.m "QuestionReader" "refuse", "refuse", "QuestionReader.refuse", s_16, []⟩) : FnOk P w (L.gx K c).K mg base (L2.CX P w) (lv n + 1 + 1) ((.m "QuestionReader" "refuse" : Pth).ad (L.gx K c).K) M.fd ["self"] (spF (L.gx K c) (bodyRun N_16.length (m_16 (run n))) (["self"] : List Str).length) := by
  refine fnd_ok (G := L.gx K c) (k := lv n + 1) (ms := m_16 (run n)) M.F sc_16 fun cdv A outer s H E hr cc => ?_
  exact sss_one (ss_raiseL 4 6 19 20 21 cc NS rfl rfl rfl rfl rfl (xi_3 (c := c)) (hr.mono (two_le _)) rfl (se_ix (ixs_item cc) (se_ix (ixs_item cc) (se_attr cc (se_var 0) rfl (at_tokens_f cc) (at_tokens_p cc hr ih)) (se_attr cc (se_var 0) rfl (at_at_f cc) (at_at_p cc hr ih))) (se_int)))
theorem cal_16 (NS : Ns K mg) (HD : HDk hdn K w) (n : Nat) (ih : IH c P w mg base n) : Cal (L.gx K c) P w mg base (lv (n + 1)) ((.m "QuestionReader" "refuse" : Pth).ad K) (run (n + 1) 16) := by
  obtain ⟨M⟩ := c.fn 16 rfl
  have hv : M.dvs = [] := List.eq_nil_of_length_eq_zero (by rw [← (M.rd ⟨[], []⟩ fun _ => none).length]; rfl)
  exact cal_defD (ok_16 NS HD n ih M) rfl (fun j hj => ⟨[], by rw [hv]; cases j <;> exact .nil, FunD.bindsN (ps := ["self"]) (hv ▸ M.F) fun _ _ _ _ _ _ us hl => match us, hl with | [_], _ => rfl⟩) M.rd
abbrev N_17 : List Str := ["self", "word", "kind", "own", "position"]
theorem sc_17 : FnScope N_17 ["self", "word"] (defScope s_17) := ⟨rfl, rfl, rfl, by decide +kernel, rfl, by decide +kernel, by decide +kernel⟩
theorem ok_17 (NS : Ns K mg) (HD : HDk hdn K w) (n : Nat) (ih : IH c P w mg base n) (M : FnM (L.gx K c) ⟨.m "QuestionReader" "accept", "accept", "QuestionReader.accept", s_17, []⟩) : FnOk P w (L.gx K c).K mg base (L2.CX P w) (lv n + 1 + 1) ((.m "QuestionReader" "accept" : Pth).ad (L.gx K c).K) M.fd ["self", "word"] (spF (L.gx K c) (bodyRun N_17.length (m_17 (run n))) (["self", "word"] : List Str).length) := by
  refine fnd_ok (G := L.gx K c) (k := lv n + 1) (ms := m_17 (run n)) M.F sc_17 fun cdv A outer s H E hr cc => ?_
  exact sss_cons (ss_asg (se_ix (ixs_item cc) (se_attr cc (se_var 0) rfl (at_tokens_f cc) (at_tokens_p cc hr ih)) (se_attr cc (se_var 0) rfl (at_at_f cc) (at_at_p cc hr ih))) (sg_tup cc (sgs_cons (sg_name cc.nd rfl (by first | exact Or.inl rfl | exact Or.inr rfl)) (sgs_cons (sg_name cc.nd rfl (by first | exact Or.inl rfl | exact Or.inr rfl)) (sgs_cons (sg_name cc.nd rfl (by first | exact Or.inl rfl | exact Or.inr rfl)) (sgs_nil))))))
    (sss_cons (ss_if (st_w (sw_or (st_cmp (ops_notIn cc) (se_var 2) (se_tup (sa_cons (se_str [110, 97, 109, 101]) (sa_cons (se_str [109, 97, 114, 107]) (sa_nil))) (szl rfl))) (sw_or1 (st_cmp (oNe_ok cc hr ih) (se_var 3) (se_var 1))))) (sss_one (ss_ret (se_bl))) (sss_nil))
    (sss_cons (ss_faugA (se_var 0) (se_int) rfl (st_at_ok cc))
    (sss_one (ss_ret (se_bl)))))
theorem cal_17 (NS : Ns K mg) (HD : HDk hdn K w) (n : Nat) (ih : IH c P w mg base n) : Cal (L.gx K c) P w mg base (lv (n + 1)) ((.m "QuestionReader" "accept" : Pth).ad K) (run (n + 1) 17) := by
  obtain ⟨M⟩ := c.fn 17 rfl
  have hv : M.dvs = [] := List.eq_nil_of_length_eq_zero (by rw [← (M.rd ⟨[], []⟩ fun _ => none).length]; rfl)
  exact cal_defD (ok_17 NS HD n ih M) rfl (fun j hj => ⟨[], by rw [hv]; cases j <;> exact .nil, FunD.bindsN (ps := ["self", "word"]) (hv ▸ M.F) fun _ _ _ _ _ _ us hl => match us, hl with | [_, _], _ => rfl⟩) M.rd
abbrev N_18 : List Str := ["self"]
theorem sc_18 : FnScope N_18 ["self"] (defScope s_18) := ⟨rfl, rfl, rfl, by decide +kernel, rfl, by decide +kernel, by decide +kernel⟩
theorem ok_18 (NS : Ns K mg) (HD : HDk hdn K w) (n : Nat) (ih : IH c P w mg base n) (M : FnM (L.gx K c) ⟨.m "QuestionReader" "read_end", "read_end", "QuestionReader.read_end", s_18, []⟩) : FnOk P w (L.gx K c).K mg base (L2.CX P w) (lv n + 1 + 1) ((.m "QuestionReader" "read_end" : Pth).ad (L.gx K c).K) M.fd ["self"] (spF (L.gx K c) (bodyRun N_18.length (m_18 (run n))) (["self"] : List Str).length) := by
  refine fnd_ok (G := L.gx K c) (k := lv n + 1) (ms := m_18 (run n)) M.F sc_18 fun cdv A outer s H E hr cc => ?_
  exact sss_one (ss_if (st_cmp (oNe_ok cc hr ih) (se_ix (ixs_item cc) (se_ix (ixs_item cc) (se_attr cc (se_var 0) rfl (at_tokens_f cc) (at_tokens_p cc hr ih)) (se_attr cc (se_var 0) rfl (at_at_f cc) (at_at_p cc hr ih))) (se_int)) (se_str [101, 110, 100])) (sss_one (ss_expr (se_meth0 cc (se_var 0) rfl (me_refuse_ok cc hr ih)))) (sss_nil))
theorem cal_18 (NS : Ns K mg) (HD : HDk hdn K w) (n : Nat) (ih : IH c P w mg base n) : Cal (L.gx K c) P w mg base (lv (n + 1)) ((.m "QuestionReader" "read_end" : Pth).ad K) (run (n + 1) 18) := by
  obtain ⟨M⟩ := c.fn 18 rfl
  have hv : M.dvs = [] := List.eq_nil_of_length_eq_zero (by rw [← (M.rd ⟨[], []⟩ fun _ => none).length]; rfl)
  exact cal_defD (ok_18 NS HD n ih M) rfl (fun j hj => ⟨[], by rw [hv]; cases j <;> exact .nil, FunD.bindsN (ps := ["self"]) (hv ▸ M.F) fun _ _ _ _ _ _ us hl => match us, hl with | [_], _ => rfl⟩) M.rd
abbrev N_19 : List Str := ["self", "found"]
theorem sc_19 : FnScope N_19 ["self"] (defScope s_19) := ⟨rfl, rfl, rfl, by decide +kernel, rfl, by decide +kernel, by decide +kernel⟩
theorem ok_19 (NS : Ns K mg) (HD : HDk hdn K w) (n : Nat) (ih : IH c P w mg base n) (M : FnM (L.gx K c) ⟨.m "QuestionReader" "read_condition", "read_condition", "QuestionReader.read_condition", s_19, []⟩) : FnOk P w (L.gx K c).K mg base (L2.CX P w) (lv n + 1 + 1) ((.m "QuestionReader" "read_condition" : Pth).ad (L.gx K c).K) M.fd ["self"] (spF (L.gx K c) (bodyRun N_19.length (m_19 (run n))) (["self"] : List Str).length) := by
  refine fnd_ok (G := L.gx K c) (k := lv n + 1) (ms := m_19 (run n)) M.F sc_19 fun cdv A outer s H E hr cc => ?_
  exact sss_cons (ss_set (i := 1) cc.nd rfl (by first | exact Or.inl rfl | exact Or.inr rfl) (se_meth0 cc (se_var 0) rfl (me_read_both_ok cc hr ih)))
    (sss_cons (ss_while 100000 cc (st_tru cc (se_meth cc (se_var 0) rfl (me_accept_ok cc hr ih) (sa_cons (se_str [111, 114]) (sa_nil)))) (sss_one (ss_set (i := 1) cc.nd rfl (by first | exact Or.inl rfl | exact Or.inr rfl) (se_bin (oBitOr_ok cc hr ih) (se_var 1) (se_meth0 cc (se_var 0) rfl (me_read_both_ok cc hr ih))))))
    (sss_one (ss_ret (se_var 1))))
theorem cal_19 (NS : Ns K mg) (HD : HDk hdn K w) (n : Nat) (ih : IH c P w mg base n) : Cal (L.gx K c) P w mg base (lv (n + 1)) ((.m "QuestionReader" "read_condition" : Pth).ad K) (run (n + 1) 19) := by
  obtain ⟨M⟩ := c.fn 19 rfl
  have hv : M.dvs = [] := List.eq_nil_of_length_eq_zero (by rw [← (M.rd ⟨[], []⟩ fun _ => none).length]; rfl)
  exact cal_defD (ok_19 NS HD n ih M) rfl (fun j hj => ⟨[], by rw [hv]; cases j <;> exact .nil, FunD.bindsN (ps := ["self"]) (hv ▸ M.F) fun _ _ _ _ _ _ us hl => match us, hl with | [_], _ => rfl⟩) M.rd
abbrev N_20 : List Str := ["self", "found"]
theorem sc_20 : FnScope N_20 ["self"] (defScope s_20) := ⟨rfl, rfl, rfl, by decide +kernel, rfl, by decide +kernel, by decide +kernel⟩
theorem ok_20 (NS : Ns K mg) (HD : HDk hdn K w) (n : Nat) (ih : IH c P w mg base n) (M : FnM (L.gx K c) ⟨.m "QuestionReader" "read_both", "read_both", "QuestionReader.read_both", s_20, []⟩) : FnOk P w (L.gx K c).K mg base (L2.CX P w) (lv n + 1 + 1) ((.m "QuestionReader" "read_both" : Pth).ad (L.gx K c).K) M.fd ["self"] (spF (L.gx K c) (bodyRun N_20.length (m_20 (run n))) (["self"] : List Str).length) := by
  refine fnd_ok (G := L.gx K c) (k := lv n + 1) (ms := m_20 (run n)) M.F sc_20 fun cdv A outer s H E hr cc => ?_
  exact sss_cons (ss_set (i := 1) cc.nd rfl (by first | exact Or.inl rfl | exact Or.inr rfl) (se_meth0 cc (se_var 0) rfl (me_read_one_ok cc hr ih)))
    (sss_cons (ss_while 100000 cc (st_tru cc (se_meth cc (se_var 0) rfl (me_accept_ok cc hr ih) (sa_cons (se_str [97, 110, 100]) (sa_nil)))) (sss_one (ss_set (i := 1) cc.nd rfl (by first | exact Or.inl rfl | exact Or.inr rfl) (se_bin (oBitAnd_ok cc hr ih) (se_var 1) (se_meth0 cc (se_var 0) rfl (me_read_one_ok cc hr ih))))))
    (sss_one (ss_ret (se_var 1))))
theorem cal_20 (NS : Ns K mg) (HD : HDk hdn K w) (n : Nat) (ih : IH c P w mg base n) : Cal (L.gx K c) P w mg base (lv (n + 1)) ((.m "QuestionReader" "read_both" : Pth).ad K) (run (n + 1) 20) := by
  obtain ⟨M⟩ := c.fn 20 rfl
  have hv : M.dvs = [] := List.eq_nil_of_length_eq_zero (by rw [← (M.rd ⟨[], []⟩ fun _ => none).length]; rfl)
  exact cal_defD (ok_20 NS HD n ih M) rfl (fun j hj => ⟨[], by rw [hv]; cases j <;> exact .nil, FunD.bindsN (ps := ["self"]) (hv ▸ M.F) fun _ _ _ _ _ _ us hl => match us, hl with | [_], _ => rfl⟩) M.rd
abbrev N_21 : List Str := ["self", "found"]
theorem sc_21 : FnScope N_21 ["self"] (defScope s_21) := ⟨rfl, rfl, rfl, by decide +kernel, rfl, by decide +kernel, by decide +kernel⟩
theorem ok_21 (NS : Ns K mg) (HD : HDk hdn K w) (n : Nat) (ih : IH c P w mg base n) (M : FnM (L.gx K c) ⟨.m "QuestionReader" "read_one", "read_one", "QuestionReader.read_one", s_21, []⟩) : FnOk P w (L.gx K c).K mg base (L2.CX P w) (lv n + 1 + 1) ((.m "QuestionReader" "read_one" : Pth).ad (L.gx K c).K) M.fd ["self"] (spF (L.gx K c) (bodyRun N_21.length (m_21 (run n))) (["self"] : List Str).length) := by
  refine fnd_ok (G := L.gx K c) (k := lv n + 1) (ms := m_21 (run n)) M.F sc_21 fun cdv A outer s H E hr cc => ?_
  exact sss_cons (ss_if (st_cmp ops_gt (se_attr cc (se_var 0) rfl (at_depth_f cc) (at_depth_p cc hr ih)) (se_con c NS 22 rfl rfl)) (sss_one (ss_raiseL 3 11 23 24 25 cc NS rfl rfl rfl rfl rfl (xi_2 (c := c)) (hr.mono (two_le _)) rfl (se_str [110, 101, 115, 116, 105, 110, 103]))) (sss_nil))
    (sss_cons (ss_faugA (se_var 0) (se_int) rfl (st_depth_ok cc))
    (sss_cons (ss_if (st_tru cc (se_meth cc (se_var 0) rfl (me_accept_ok cc hr ih) (sa_cons (se_str [110, 111, 116]) (sa_nil)))) (sss_one (ss_set (i := 1) cc.nd rfl (by first | exact Or.inl rfl | exact Or.inr rfl) (se_un (oInv_ok cc hr ih) (se_meth0 cc (se_var 0) rfl (me_read_one_ok cc hr ih))))) (sss_one (ss_if (st_tru cc (se_meth cc (se_var 0) rfl (me_accept_ok cc hr ih) (sa_cons (se_str [40]) (sa_nil)))) (sss_cons (ss_set (i := 1) cc.nd rfl (by first | exact Or.inl rfl | exact Or.inr rfl) (se_meth0 cc (se_var 0) rfl (me_read_condition_ok cc hr ih)))
    (sss_one (ss_if (st_not (st_tru cc (se_meth cc (se_var 0) rfl (me_accept_ok cc hr ih) (sa_cons (se_str [41]) (sa_nil))))) (sss_one (ss_expr (se_meth0 cc (se_var 0) rfl (me_refuse_ok cc hr ih)))) (sss_nil)))) (sss_one (ss_set (i := 1) cc.nd rfl (by first | exact Or.inl rfl | exact Or.inr rfl) (se_meth0 cc (se_var 0) rfl (me_read_atom_ok cc hr ih)))))))
    (sss_cons (ss_faugM (se_var 0) (se_int) rfl (st_depth_ok cc))
    (sss_one (ss_ret (se_var 1))))))
theorem cal_21 (NS : Ns K mg) (HD : HDk hdn K w) (n : Nat) (ih : IH c P w mg base n) : Cal (L.gx K c) P w mg base (lv (n + 1)) ((.m "QuestionReader" "read_one" : Pth).ad K) (run (n + 1) 21) := by
  obtain ⟨M⟩ := c.fn 21 rfl
  have hv : M.dvs = [] := List.eq_nil_of_length_eq_zero (by rw [← (M.rd ⟨[], []⟩ fun _ => none).length]; rfl)
  exact cal_defD (ok_21 NS HD n ih M) rfl (fun j hj => ⟨[], by rw [hv]; cases j <;> exact .nil, FunD.bindsN (ps := ["self"]) (hv ▸ M.F) fun _ _ _ _ _ _ us hl => match us, hl with | [_], _ => rfl⟩) M.rd
abbrev N_22 : List Str := ["self", "word"]
theorem sc_22 : FnScope N_22 ["self"] (defScope s_22) := ⟨rfl, rfl, rfl, by decide +kernel, rfl, by decide +kernel, by decide +kernel⟩
theorem ok_22 (NS : Ns K mg) (HD : HDk hdn K w) (n : Nat) (ih : IH c P w mg base n) (M : FnM (L.gx K c) ⟨.m "QuestionReader" "read_atom", "read_atom", "QuestionReader.read_atom", s_22, []⟩) : FnOk P w (L.gx K c).K mg base (L2.CX P w) (lv n + 1 + 1) ((.m "QuestionReader" "read_atom" : Pth).ad (L.gx K c).K) M.fd ["self"] (spF (L.gx K c) (bodyRun N_22.length (m_22 (run n))) (["self"] : List Str).length) := by
  refine fnd_ok (G := L.gx K c) (k := lv n + 1) (ms := m_22 (run n)) M.F sc_22 fun cdv A outer s H E hr cc => ?_
  exact sss_cons (ss_if (st_tru cc (se_meth cc (se_var 0) rfl (me_accept_ok cc hr ih) (sa_cons (se_str [97, 110, 121]) (sa_nil)))) (sss_one (ss_ret (se_call (fns_make cc (cls_of c 0 rfl) (mk_of c 7 rfl) (ih.1 7 rfl rfl) hr) rfl (NS.glo c 6) (keep_of c 6) (sa_cons (se_tup (sa_cons (se_str [97, 110, 121]) (sa_nil)) (szl rfl)) (sa_nil))))) (sss_nil))
    (sss_cons (ss_for 100000 cc (si_or (si_seq cc (se_con c NS 9 rfl rfl)) (si_txt (se_con c NS 9 rfl rfl))) (sg_name cc.nd rfl (by first | exact Or.inl rfl | exact Or.inr rfl)) (sss_one (ss_if (st_tru cc (se_meth cc (se_var 0) rfl (me_accept_ok cc hr ih) (sa_cons (se_var 1) (sa_nil)))) (sss_one (ss_ret (se_call (fns_make cc (cls_of c 0 rfl) (mk_of c 7 rfl) (ih.1 7 rfl rfl) hr) rfl (NS.glo c 6) (keep_of c 6) (sa_cons (se_tup (sa_cons (se_var 1) (sa_cons (se_meth cc (se_var 0) rfl (me_read_value_ok cc hr ih) (sa_cons (se_var 1) (sa_nil))) (sa_nil))) (szl rfl)) (sa_nil))))) (sss_nil))))
    (sss_one (ss_expr (se_meth0 cc (se_var 0) rfl (me_refuse_ok cc hr ih)))))
theorem cal_22 (NS : Ns K mg) (HD : HDk hdn K w) (n : Nat) (ih : IH c P w mg base n) : Cal (L.gx K c) P w mg base (lv (n + 1)) ((.m "QuestionReader" "read_atom" : Pth).ad K) (run (n + 1) 22) := by
  obtain ⟨M⟩ := c.fn 22 rfl
  have hv : M.dvs = [] := List.eq_nil_of_length_eq_zero (by rw [← (M.rd ⟨[], []⟩ fun _ => none).length]; rfl)
  exact cal_defD (ok_22 NS HD n ih M) rfl (fun j hj => ⟨[], by rw [hv]; cases j <;> exact .nil, FunD.bindsN (ps := ["self"]) (hv ▸ M.F) fun _ _ _ _ _ _ us hl => match us, hl with | [_], _ => rfl⟩) M.rd
abbrev N_23 : List Str := ["self", "word", "kind", "own", "position"]
theorem sc_23 : FnScope N_23 ["self", "word"] (defScope s_23) := ⟨rfl, rfl, rfl, by decide +kernel, rfl, by decide +kernel, by decide +kernel⟩
theorem ok_23 (NS : Ns K mg) (HD : HDk hdn K w) (n : Nat) (ih : IH c P w mg base n) (M : FnM (L.gx K c) ⟨.m "QuestionReader" "read_value", "read_value", "QuestionReader.read_value", s_23, []⟩) : FnOk P w (L.gx K c).K mg base (L2.CX P w) (lv n + 1 + 1) ((.m "QuestionReader" "read_value" : Pth).ad (L.gx K c).K) M.fd ["self", "word"] (spF (L.gx K c) (bodyRun N_23.length (m_23 (run n))) (["self", "word"] : List Str).length) := by
  refine fnd_ok (G := L.gx K c) (k := lv n + 1) (ms := m_23 (run n)) M.F sc_23 fun cdv A outer s H E hr cc => ?_
  exact sss_cons (ss_asg (se_ix (ixs_item cc) (se_attr cc (se_var 0) rfl (at_tokens_f cc) (at_tokens_p cc hr ih)) (se_attr cc (se_var 0) rfl (at_at_f cc) (at_at_p cc hr ih))) (sg_tup cc (sgs_cons (sg_name cc.nd rfl (by first | exact Or.inl rfl | exact Or.inr rfl)) (sgs_cons (sg_name cc.nd rfl (by first | exact Or.inl rfl | exact Or.inr rfl)) (sgs_cons (sg_name cc.nd rfl (by first | exact Or.inl rfl | exact Or.inr rfl)) (sgs_nil))))))
    (sss_cons (ss_if (st_cmp (ops_in cc) (se_var 1) (se_con c NS 26 rfl rfl)) (sss_cons (ss_if (st_cmp (oNe_ok cc hr ih) (se_var 2) (se_str [110, 117, 109, 98, 101, 114])) (sss_one (ss_expr (se_meth0 cc (se_var 0) rfl (me_refuse_ok cc hr ih)))) (sss_nil))
    (sss_cons (ss_if (st_cmp ops_gt (se_callB (fns_len cc) rfl (NS.free c 3) (by decide +kernel) (sa_cons (se_var 3) (sa_nil))) (se_con c NS 27 rfl rfl)) (sss_one (ss_raiseL 3 11 23 24 25 cc NS rfl rfl rfl rfl rfl (xi_2 (c := c)) (hr.mono (two_le _)) rfl (se_str [110, 117, 109, 98, 101, 114, 115]))) (sss_nil))
    (sss_cons (ss_faugA (se_var 0) (se_int) rfl (st_at_ok cc))
    (sss_one (ss_ret (se_callTy (fns_int.or fns_intT) rfl (NS.free c 28) (by decide +kernel) (sa_cons (se_var 3) (sa_nil)))))))) (sss_nil))
    (sss_cons (ss_if (st_w (sw_or (st_w (sw_and (st_cmp (oEq_ok cc hr ih) (se_var 1) (se_str [97, 114, 114, 97, 121])) (sw_and1 (st_cmp (oNe_ok cc hr ih) (se_var 2) (se_str [110, 97, 109, 101]))))) (sw_or1 (st_w (sw_and (st_cmp (ops_kin (t := kdt_0) 1000 0 29 cc HD rfl rfl rfl) (se_var 1) (se_kd 1000 29 NS rfl rfl rfl)) (sw_and1 (st_cmp (ops_notIn cc) (se_var 3) (se_ix (ixs_kix (t := kdt_0) 1000 0 29 cc HD rfl rfl rfl) (se_kd 1000 29 NS rfl rfl rfl) (se_var 1))))))))) (sss_one (ss_expr (se_meth0 cc (se_var 0) rfl (me_refuse_ok cc hr ih)))) (sss_nil))
    (sss_cons (ss_faugA (se_var 0) (se_int) rfl (st_at_ok cc))
    (sss_one (ss_ret (se_var 3))))))
theorem cal_23 (NS : Ns K mg) (HD : HDk hdn K w) (n : Nat) (ih : IH c P w mg base n) : Cal (L.gx K c) P w mg base (lv (n + 1)) ((.m "QuestionReader" "read_value" : Pth).ad K) (run (n + 1) 23) := by
  obtain ⟨M⟩ := c.fn 23 rfl
  have hv : M.dvs = [] := List.eq_nil_of_length_eq_zero (by rw [← (M.rd ⟨[], []⟩ fun _ => none).length]; rfl)
  exact cal_defD (ok_23 NS HD n ih M) rfl (fun j hj => ⟨[], by rw [hv]; cases j <;> exact .nil, FunD.bindsN (ps := ["self", "word"]) (hv ▸ M.F) fun _ _ _ _ _ _ us hl => match us, hl with | [_, _], _ => rfl⟩) M.rd
abbrev N_24 : List Str := ["text", "reader", "found"]
theorem sc_24 : FnScope N_24 ["text"] (defScope s_24) := ⟨rfl, rfl, rfl, by decide +kernel, rfl, by decide +kernel, by decide +kernel⟩
theorem ok_24 (NS : Ns K mg) (HD : HDk hdn K w) (n : Nat) (ih : IH c P w mg base n) (M : FnM (L.gx K c) ⟨.g "read_condition", "read_condition", "read_condition", s_24, []⟩) : FnOk P w (L.gx K c).K mg base (L2.CX P w) (lv n + 1 + 1) ((.g "read_condition" : Pth).ad (L.gx K c).K) M.fd ["text"] (spF (L.gx K c) (bodyRun N_24.length (m_24 (run n))) (["text"] : List Str).length) := by
  refine fnd_ok (G := L.gx K c) (k := lv n + 1) (ms := m_24 (run n)) M.F sc_24 fun cdv A outer s H E hr cc => ?_
  exact sss_cons (ss_set (i := 1) cc.nd rfl (by first | exact Or.inl rfl | exact Or.inr rfl) (se_call (fns_make cc (cls_of c 1 rfl) (mk_of c 31 rfl) (ih.1 15 rfl rfl) hr) rfl (NS.glo c 30) (keep_of c 30) (sa_cons (se_var 0) (sa_nil))))
    (sss_cons (ss_set (i := 2) cc.nd rfl (by first | exact Or.inl rfl | exact Or.inr rfl) (se_meth0 cc (se_var 1) rfl (me_read_condition_ok cc hr ih)))
    (sss_cons (ss_expr (se_meth0 cc (se_var 1) rfl (me_read_end_ok cc hr ih)))
    (sss_one (ss_ret (se_var 2)))))
theorem cal_24 (NS : Ns K mg) (HD : HDk hdn K w) (n : Nat) (ih : IH c P w mg base n) : Cal (L.gx K c) P w mg base (lv (n + 1)) ((.g "read_condition" : Pth).ad K) (run (n + 1) 24) := by
  obtain ⟨M⟩ := c.fn 24 rfl
  have hv : M.dvs = [] := List.eq_nil_of_length_eq_zero (by rw [← (M.rd ⟨[], []⟩ fun _ => none).length]; rfl)
  exact cal_defD (ok_24 NS HD n ih M) rfl (fun j hj => ⟨[], by rw [hv]; cases j <;> exact .nil, FunD.bindsN (ps := ["text"]) (hv ▸ M.F) fun _ _ _ _ _ _ us hl => match us, hl with | [_], _ => rfl⟩) M.rd
abbrev N_25 : List Str := ["_law_script", "_law_k", "_law_cell", "_law_heavy", "_law_blend", "_law_seed"]
theorem sc_25 : FnScope N_25 ["_law_script", "_law_k"] (defScope s_25) := ⟨rfl, rfl, rfl, by decide +kernel, rfl, by decide +kernel, by decide +kernel⟩
theorem ok_25 (NS : Ns K mg) (HD : HDk hdn K w) (n : Nat) (ih : IH c P w mg base n) (M : FnM (L.gx K c) ⟨.g "_law_pool", "_law_pool", "_law_pool", s_25, []⟩) : FnOk P w (L.gx K c).K mg base (L2.CX P w) (lv n + 1 + 1) ((.g "_law_pool" : Pth).ad (L.gx K c).K) M.fd ["_law_script", "_law_k"] (spF (L.gx K c) (bodyRun N_25.length (m_25 (run n))) (["_law_script", "_law_k"] : List Str).length) := by
  refine fnd_ok (G := L.gx K c) (k := lv n + 1) (ms := m_25 (run n)) M.F sc_25 fun cdv A outer s H E hr cc => ?_
  exact sss_cons (ss_set (i := 2) cc.nd rfl (by first | exact Or.inl rfl | exact Or.inr rfl) (se_int))
    (sss_cons (ss_if (st_cmp ops_lt (se_var 1) (se_callB (fns_len cc) rfl (NS.free c 3) (by decide +kernel) (sa_cons (se_var 0) (sa_nil)))) (sss_one (ss_set (i := 2) cc.nd rfl (by first | exact Or.inl rfl | exact Or.inr rfl) (se_ix (ixs_item cc) (se_var 0) (se_var 1)))) (sss_nil))
    (sss_cons (ss_set (i := 3) cc.nd rfl (by first | exact Or.inl rfl | exact Or.inr rfl) (se_callB (fns_abs) rfl (NS.free c 32) (by decide +kernel) (sa_cons (se_var 2) (sa_nil))))
    (sss_cons (ss_set (i := 4) cc.nd rfl (by first | exact Or.inl rfl | exact Or.inr rfl) (se_bin ops_mod (se_bin (oMul_ok cc hr ih) (se_callTy (fns_int) rfl (NS.free c 28) (by decide +kernel) (sa_cons (se_bin (oAdd_ok cc hr ih) (se_bin ops_mod (se_callTy (fns_int) rfl (NS.free c 28) (by decide +kernel) (sa_cons (se_var 2) (sa_nil))) (se_int)) (se_bin (oMul_ok cc hr ih) (se_int) (se_bin (oAdd_ok cc hr ih) (se_var 1) (se_int)))) (sa_nil))) (se_bin (oAdd_ok cc hr ih) (se_var 1) (se_int))) (se_int)))
    (sss_cons (ss_set (i := 5) cc.nd rfl (by first | exact Or.inl rfl | exact Or.inr rfl) (se_bin ops_mod (se_bin (oMul_ok cc hr ih) (se_bin ops_mod (se_callTy (fns_int) rfl (NS.free c 28) (by decide +kernel) (sa_cons (se_bin (oMul_ok cc hr ih) (se_var 4) (se_var 4)) (sa_nil))) (se_int)) (se_int)) (se_int)))
    (sss_one (ss_ret (se_lst (sa_cons (se_bin (oMul_ok cc hr ih) (se_var 3) (se_callTy (fns_int) rfl (NS.free c 28) (by decide +kernel) (sa_cons (se_cmp ops_ge (se_var 3) (se_bin ops_pow (se_int) (se_int))) (sa_nil)))) (sa_cons (se_var 5) (sa_nil))) (szl rfl))))))))
theorem cal_25 (NS : Ns K mg) (HD : HDk hdn K w) (n : Nat) (ih : IH c P w mg base n) : Cal (L.gx K c) P w mg base (lv (n + 1)) ((.g "_law_pool" : Pth).ad K) (run (n + 1) 25) := by
  obtain ⟨M⟩ := c.fn 25 rfl
  have hv : M.dvs = [] := List.eq_nil_of_length_eq_zero (by rw [← (M.rd ⟨[], []⟩ fun _ => none).length]; rfl)
  exact cal_defD (ok_25 NS HD n ih M) rfl (fun j hj => ⟨[], by rw [hv]; cases j <;> exact .nil, FunD.bindsN (ps := ["_law_script", "_law_k"]) (hv ▸ M.F) fun _ _ _ _ _ _ us hl => match us, hl with | [_, _], _ => rfl⟩) M.rd
abbrev N_26 : List Str := ["_law_pool_here", "_law_wide", "_law_result"]
theorem sc_26 : FnScope N_26 ["_law_pool_here", "_law_wide"] (defScope s_26) := ⟨rfl, rfl, rfl, by decide +kernel, rfl, by decide +kernel, by decide +kernel⟩
theorem ok_26 (NS : Ns K mg) (HD : HDk hdn K w) (n : Nat) (ih : IH c P w mg base n) (M : FnM (L.gx K c) ⟨.g "_law_take", "_law_take", "_law_take", s_26, []⟩) : FnOk P w (L.gx K c).K mg base (L2.CX P w) (lv n + 1 + 1) ((.g "_law_take" : Pth).ad (L.gx K c).K) M.fd ["_law_pool_here", "_law_wide"] (spF (L.gx K c) (bodyRun N_26.length (m_26 (run n))) (["_law_pool_here", "_law_wide"] : List Str).length) := by
  refine fnd_ok (G := L.gx K c) (k := lv n + 1) (ms := m_26 (run n)) M.F sc_26 fun cdv A outer s H E hr cc => ?_
  exact sss_cons (ss_if (st_cmp ops_gt (se_ix (ixs_item cc) (se_var 0) (se_int)) (se_int)) (sss_cons (ss_set (i := 2) cc.nd rfl (by first | exact Or.inl rfl | exact Or.inr rfl) (se_bin ops_mod (se_callTy (fns_int) rfl (NS.free c 28) (by decide +kernel) (sa_cons (se_ix (ixs_item cc) (se_var 0) (se_int)) (sa_nil))) (se_var 1)))
    (sss_cons (ss_asg (se_bin ops_div (se_ix (ixs_item cc) (se_var 0) (se_int)) (se_var 1)) (sg_sub (W := WF E) (se_var 0) (se_int) sts_list))
    (sss_one (ss_ret (se_var 2))))) (sss_nil))
    (sss_cons (ss_asg (se_bin ops_mod (se_callTy (fns_int) rfl (NS.free c 28) (by decide +kernel) (sa_cons (se_bin (oAdd_ok cc hr ih) (se_bin (oMul_ok cc hr ih) (se_ix (ixs_item cc) (se_var 0) (se_int)) (se_int)) (se_int)) (sa_nil))) (se_int)) (sg_sub (W := WF E) (se_var 0) (se_int) sts_list))
    (sss_one (ss_ret (se_bin ops_mod (se_bin ops_div (se_bin ops_mod (se_callTy (fns_int) rfl (NS.free c 28) (by decide +kernel) (sa_cons (se_bin (oMul_ok cc hr ih) (se_ix (ixs_item cc) (se_var 0) (se_int)) (se_ix (ixs_item cc) (se_var 0) (se_int))) (sa_nil))) (se_int)) (se_int)) (se_var 1)))))
theorem cal_26 (NS : Ns K mg) (HD : HDk hdn K w) (n : Nat) (ih : IH c P w mg base n) : Cal (L.gx K c) P w mg base (lv (n + 1)) ((.g "_law_take" : Pth).ad K) (run (n + 1) 26) := by
  obtain ⟨M⟩ := c.fn 26 rfl
  have hv : M.dvs = [] := List.eq_nil_of_length_eq_zero (by rw [← (M.rd ⟨[], []⟩ fun _ => none).length]; rfl)
  exact cal_defD (ok_26 NS HD n ih M) rfl (fun j hj => ⟨[], by rw [hv]; cases j <;> exact .nil, FunD.bindsN (ps := ["_law_pool_here", "_law_wide"]) (hv ▸ M.F) fun _ _ _ _ _ _ us hl => match us, hl with | [_, _], _ => rfl⟩) M.rd
abbrev N_27 : List Str := ["_law_pool_here", "_law_kinds", "_law_some"]
theorem sc_27 : FnScope N_27 ["_law_pool_here"] (defScope s_27) := ⟨rfl, rfl, rfl, by decide +kernel, rfl, by decide +kernel, by decide +kernel⟩
theorem ok_27 (NS : Ns K mg) (HD : HDk hdn K w) (n : Nat) (ih : IH c P w mg base n) (M : FnM (L.gx K c) ⟨.g "_law_atoms", "_law_atoms", "_law_atoms", s_27, []⟩) : FnOk P w (L.gx K c).K mg base (L2.CX P w) (lv n + 1 + 1) ((.g "_law_atoms" : Pth).ad (L.gx K c).K) M.fd ["_law_pool_here"] (spF (L.gx K c) (bodyRun N_27.length (m_27 (run n))) (["_law_pool_here"] : List Str).length) := by
  refine fnd_ok (G := L.gx K c) (k := lv n + 1) (ms := m_27 (run n)) M.F sc_27 fun cdv A outer s H E hr cc => ?_
  exact sss_cons (ss_par (i := 1) (j := 2) cc.calm cc.nd rfl rfl (by decide) rfl rfl (sa_cons (se_lv (sa_cons (se_str [104, 105, 116]) (sa_cons (se_str [109, 105, 115, 115]) (sa_cons (se_str [99, 114, 111, 119, 100, 101, 100]) (sa_cons (se_str [98, 97, 99, 107]) (sa_cons (se_str [116, 104, 114, 111, 119, 110]) (sa_nil)))))) (szl rfl)) (sa_cons (se_lst (sa_nil) (szl rfl)) (sa_nil))))
    (sss_cons (ss_expr (se_bm PySem.F.plainAttrs_list PySem.F.slot_list_append PySem.F.type_list_append mts_append (ck_list cc) (se_var 2) (sa_cons (se_tup (sa_cons (se_str [107, 105, 110, 100]) (sa_cons (se_ix (ixs_item cc) (se_var 1) (se_call (fns_cal cc (ih.1 26 rfl rfl) (hr.mono (Nat.le_succ _))) rfl (NS.glo c 33) (keep_of c 33) (sa_cons (se_var 0) (sa_cons (se_int) (sa_nil))))) (sa_nil))) (szl rfl)) (sa_nil))))
    (sss_cons (ss_expr (se_bm PySem.F.plainAttrs_list PySem.F.slot_list_append PySem.F.type_list_append mts_append (ck_list cc) (se_var 2) (sa_cons (se_tup (sa_cons (se_str [108, 101, 118, 101, 108]) (sa_cons (se_call (fns_cal cc (ih.1 26 rfl rfl) (hr.mono (Nat.le_succ _))) rfl (NS.glo c 33) (keep_of c 33) (sa_cons (se_var 0) (sa_cons (se_int) (sa_nil)))) (sa_nil))) (szl rfl)) (sa_nil))))
    (sss_cons (ss_expr (se_bm PySem.F.plainAttrs_list PySem.F.slot_list_append PySem.F.type_list_append mts_append (ck_list cc) (se_var 2) (sa_cons (se_tup (sa_cons (se_str [97, 99, 99, 101, 115, 115]) (sa_cons (se_call (fns_cal cc (ih.1 26 rfl rfl) (hr.mono (Nat.le_succ _))) rfl (NS.glo c 33) (keep_of c 33) (sa_cons (se_var 0) (sa_cons (se_int) (sa_nil)))) (sa_nil))) (szl rfl)) (sa_nil))))
    (sss_cons (ss_expr (se_bm PySem.F.plainAttrs_list PySem.F.slot_list_append PySem.F.type_list_append mts_append (ck_list cc) (se_var 2) (sa_cons (se_tup (sa_cons (se_str [111, 116, 104, 101, 114]) (sa_cons (se_call (fns_cal cc (ih.1 26 rfl rfl) (hr.mono (Nat.le_succ _))) rfl (NS.glo c 33) (keep_of c 33) (sa_cons (se_var 0) (sa_cons (se_int) (sa_nil)))) (sa_nil))) (szl rfl)) (sa_nil))))
    (sss_cons (ss_expr (se_bm PySem.F.plainAttrs_list PySem.F.slot_list_append PySem.F.type_list_append mts_append (ck_list cc) (se_var 2) (sa_cons (se_tup (sa_cons (se_str [97, 114, 114, 97, 121]) (sa_cons (se_ix (ixs_item cc) (se_lv (sa_cons (se_str [97]) (sa_cons (se_str [98]) (sa_nil))) (szl rfl)) (se_call (fns_cal cc (ih.1 26 rfl rfl) (hr.mono (Nat.le_succ _))) rfl (NS.glo c 33) (keep_of c 33) (sa_cons (se_var 0) (sa_cons (se_int) (sa_nil))))) (sa_nil))) (szl rfl)) (sa_nil))))
    (sss_cons (ss_expr (se_bm PySem.F.plainAttrs_list PySem.F.slot_list_append PySem.F.type_list_append mts_append (ck_list cc) (se_var 2) (sa_cons (se_tup (sa_cons (se_str [119, 111, 114, 100]) (sa_cons (se_ix (ixs_item cc) (se_lv (sa_cons (se_str [114, 101, 97, 100]) (sa_cons (se_str [119, 114, 105, 116, 101]) (sa_nil))) (szl rfl)) (se_call (fns_cal cc (ih.1 26 rfl rfl) (hr.mono (Nat.le_succ _))) rfl (NS.glo c 33) (keep_of c 33) (sa_cons (se_var 0) (sa_cons (se_int) (sa_nil))))) (sa_nil))) (szl rfl)) (sa_nil))))
    (sss_one (ss_ret (se_bin (oAdd_ok cc hr ih) (se_var 2) (se_lv (sa_cons (se_tup (sa_cons (se_str [97, 110, 121]) (sa_nil)) (szl rfl)) (sa_nil)) (szl rfl)))))))))))
theorem cal_27 (NS : Ns K mg) (HD : HDk hdn K w) (n : Nat) (ih : IH c P w mg base n) : Cal (L.gx K c) P w mg base (lv (n + 1)) ((.g "_law_atoms" : Pth).ad K) (run (n + 1) 27) := by
  obtain ⟨M⟩ := c.fn 27 rfl
  have hv : M.dvs = [] := List.eq_nil_of_length_eq_zero (by rw [← (M.rd ⟨[], []⟩ fun _ => none).length]; rfl)
  exact cal_defD (ok_27 NS HD n ih M) rfl (fun j hj => ⟨[], by rw [hv]; cases j <;> exact .nil, FunD.bindsN (ps := ["_law_pool_here"]) (hv ▸ M.F) fun _ _ _ _ _ _ us hl => match us, hl with | [_], _ => rfl⟩) M.rd
abbrev N_28 : List Str := ["_law_pool_here", "_law_depth", "_law_way"]
theorem sc_28 : FnScope N_28 ["_law_pool_here", "_law_depth"] (defScope s_28) := ⟨rfl, rfl, rfl, by decide +kernel, rfl, by decide +kernel, by decide +kernel⟩
theorem ok_28 (NS : Ns K mg) (HD : HDk hdn K w) (n : Nat) (ih : IH c P w mg base n) (M : FnM (L.gx K c) ⟨.g "_law_form", "_law_form", "_law_form", s_28, []⟩) : FnOk P w (L.gx K c).K mg base (L2.CX P w) (lv n + 1 + 1) ((.g "_law_form" : Pth).ad (L.gx K c).K) M.fd ["_law_pool_here", "_law_depth"] (spF (L.gx K c) (bodyRun N_28.length (m_28 (run n))) (["_law_pool_here", "_law_depth"] : List Str).length) := by
  refine fnd_ok (G := L.gx K c) (k := lv n + 1) (ms := m_28 (run n)) M.F sc_28 fun cdv A outer s H E hr cc => ?_
  exact sss_cons (ss_set (i := 2) cc.nd rfl (by first | exact Or.inl rfl | exact Or.inr rfl) (se_call (fns_cal cc (ih.1 26 rfl rfl) (hr.mono (Nat.le_succ _))) rfl (NS.glo c 33) (keep_of c 33) (sa_cons (se_var 0) (sa_cons (se_int) (sa_nil)))))
    (sss_cons (ss_if (st_w (sw_or (st_cmp (oEq_ok cc hr ih) (se_var 1) (se_int)) (sw_or1 (st_cmp ops_lt (se_var 2) (se_int))))) (sss_one (ss_ret (se_ix (ixs_item cc) (se_call (fns_cal cc (ih.1 27 rfl rfl) (hr.mono (Nat.le_succ _))) rfl (NS.glo c 34) (keep_of c 34) (sa_cons (se_var 0) (sa_nil))) (se_call (fns_cal cc (ih.1 26 rfl rfl) (hr.mono (Nat.le_succ _))) rfl (NS.glo c 33) (keep_of c 33) (sa_cons (se_var 0) (sa_cons (se_int) (sa_nil))))))) (sss_nil))
    (sss_cons (ss_if (st_cmp (oEq_ok cc hr ih) (se_var 2) (se_int)) (sss_one (ss_ret (se_tup (sa_cons (se_str [110, 111, 116]) (sa_cons (se_call (fns_cal cc (ih.1 28 rfl rfl) (hr.mono (Nat.le_succ _))) rfl (NS.glo c 35) (keep_of c 35) (sa_cons (se_var 0) (sa_cons (se_bin (oSub_ok cc hr ih) (se_var 1) (se_int)) (sa_nil)))) (sa_nil))) (szl rfl)))) (sss_nil))
    (sss_one (ss_ret (se_tup (sa_cons (se_ix (ixs_item cc) (se_lv (sa_cons (se_str [97, 110, 100]) (sa_cons (se_str [111, 114]) (sa_nil))) (szl rfl)) (se_bin ops_mod (se_var 2) (se_int))) (sa_cons (se_call (fns_cal cc (ih.1 28 rfl rfl) (hr.mono (Nat.le_succ _))) rfl (NS.glo c 35) (keep_of c 35) (sa_cons (se_var 0) (sa_cons (se_bin (oSub_ok cc hr ih) (se_var 1) (se_int)) (sa_nil)))) (sa_cons (se_call (fns_cal cc (ih.1 28 rfl rfl) (hr.mono (Nat.le_succ _))) rfl (NS.glo c 35) (keep_of c 35) (sa_cons (se_var 0) (sa_cons (se_bin (oSub_ok cc hr ih) (se_var 1) (se_int)) (sa_nil)))) (sa_nil)))) (szl rfl))))))
theorem cal_28 (NS : Ns K mg) (HD : HDk hdn K w) (n : Nat) (ih : IH c P w mg base n) : Cal (L.gx K c) P w mg base (lv (n + 1)) ((.g "_law_form" : Pth).ad K) (run (n + 1) 28) := by
  obtain ⟨M⟩ := c.fn 28 rfl
  have hv : M.dvs = [] := List.eq_nil_of_length_eq_zero (by rw [← (M.rd ⟨[], []⟩ fun _ => none).length]; rfl)
  exact cal_defD (ok_28 NS HD n ih M) rfl (fun j hj => ⟨[], by rw [hv]; cases j <;> exact .nil, FunD.bindsN (ps := ["_law_pool_here", "_law_depth"]) (hv ▸ M.F) fun _ _ _ _ _ _ us hl => match us, hl with | [_, _], _ => rfl⟩) M.rd
abbrev N_29 : List Str := ["_law_form_here", "_law_rank", "_law_own", "_law_found"]
theorem sc_29 : FnScope N_29 ["_law_form_here", "_law_rank"] (defScope s_29) := ⟨rfl, rfl, rfl, by decide +kernel, rfl, by decide +kernel, by decide +kernel⟩
theorem ok_29 (NS : Ns K mg) (HD : HDk hdn K w) (n : Nat) (ih : IH c P w mg base n) (M : FnM (L.gx K c) ⟨.g "_law_words", "_law_words", "_law_words", s_29, []⟩) : FnOk P w (L.gx K c).K mg base (L2.CX P w) (lv n + 1 + 1) ((.g "_law_words" : Pth).ad (L.gx K c).K) M.fd ["_law_form_here", "_law_rank"] (spF (L.gx K c) (bodyRun N_29.length (m_29 (run n))) (["_law_form_here", "_law_rank"] : List Str).length) := by
  refine fnd_ok (G := L.gx K c) (k := lv n + 1) (ms := m_29 (run n)) M.F sc_29 fun cdv A outer s H E hr cc => ?_
  exact sss_cons (ss_if (st_cmp (oEq_ok cc hr ih) (se_ix (ixs_item cc) (se_var 0) (se_int)) (se_str [97, 110, 121])) (sss_one (ss_ret (se_lv (sa_cons (se_str [97, 110, 121]) (sa_nil)) (szl rfl)))) (sss_nil))
    (sss_cons (ss_if (st_cmp (oEq_ok cc hr ih) (se_ix (ixs_item cc) (se_var 0) (se_int)) (se_str [110, 111, 116])) (sss_one (ss_ret (se_bin (oAdd_ok cc hr ih) (se_lv (sa_cons (se_str [110, 111, 116]) (sa_nil)) (szl rfl)) (se_call (fns_cal cc (ih.1 29 rfl rfl) (hr.mono (Nat.le_succ _))) rfl (NS.glo c 36) (keep_of c 36) (sa_cons (se_ix (ixs_item cc) (se_var 0) (se_int)) (sa_cons (se_int) (sa_nil))))))) (sss_nil))
    (sss_cons (ss_if (st_cmp (ops_in cc) (se_ix (ixs_item cc) (se_var 0) (se_int)) (se_lv (sa_cons (se_str [97, 110, 100]) (sa_cons (se_str [111, 114]) (sa_nil))) (szl rfl))) (sss_cons (ss_set (i := 2) cc.nd rfl (by first | exact Or.inl rfl | exact Or.inr rfl) (se_callTy (fns_int.or fns_intT) rfl (NS.free c 28) (by decide +kernel) (sa_cons (se_cmp (oEq_ok cc hr ih) (se_ix (ixs_item cc) (se_var 0) (se_int)) (se_str [97, 110, 100])) (sa_nil))))
    (sss_cons (ss_set (i := 3) cc.nd rfl (by first | exact Or.inl rfl | exact Or.inr rfl) (se_bin (oAdd_ok cc hr ih) (se_bin (oAdd_ok cc hr ih) (se_call (fns_cal cc (ih.1 29 rfl rfl) (hr.mono (Nat.le_succ _))) rfl (NS.glo c 36) (keep_of c 36) (sa_cons (se_ix (ixs_item cc) (se_var 0) (se_int)) (sa_cons (se_var 2) (sa_nil)))) (se_lv (sa_cons (se_ix (ixs_item cc) (se_var 0) (se_int)) (sa_nil)) (szl rfl))) (se_call (fns_cal cc (ih.1 29 rfl rfl) (hr.mono (Nat.le_succ _))) rfl (NS.glo c 36) (keep_of c 36) (sa_cons (se_ix (ixs_item cc) (se_var 0) (se_int)) (sa_cons (se_bin (oAdd_ok cc hr ih) (se_var 2) (se_int)) (sa_nil))))))
    (sss_one (ss_ret (se_if (st_cmp ops_lt (se_var 2) (se_var 1)) (se_bin (oAdd_ok cc hr ih) (se_bin (oAdd_ok cc hr ih) (se_lv (sa_cons (se_str [40]) (sa_nil)) (szl rfl)) (se_var 3)) (se_lv (sa_cons (se_str [41]) (sa_nil)) (szl rfl))) (se_var 3)))))) (sss_nil))
    (sss_one (ss_ret (se_lv (sa_cons (se_ix (ixs_item cc) (se_var 0) (se_int)) (sa_cons (se_callTy (fns_strI.or fns_strT) rfl (NS.free c 13) (by decide +kernel) (sa_cons (se_ix (ixs_item cc) (se_var 0) (se_int)) (sa_nil))) (sa_nil))) (szl rfl))))))
theorem cal_29 (NS : Ns K mg) (HD : HDk hdn K w) (n : Nat) (ih : IH c P w mg base n) : Cal (L.gx K c) P w mg base (lv (n + 1)) ((.g "_law_words" : Pth).ad K) (run (n + 1) 29) := by
  obtain ⟨M⟩ := c.fn 29 rfl
  have hv : M.dvs = [] := List.eq_nil_of_length_eq_zero (by rw [← (M.rd ⟨[], []⟩ fun _ => none).length]; rfl)
  exact cal_defD (ok_29 NS HD n ih M) rfl (fun j hj => ⟨[], by rw [hv]; cases j <;> exact .nil, FunD.bindsN (ps := ["_law_form_here", "_law_rank"]) (hv ▸ M.F) fun _ _ _ _ _ _ us hl => match us, hl with | [_, _], _ => rfl⟩) M.rd
abbrev N_30 : List Str := ["_law_condition", "_law_form_here", "_law_parts"]
theorem sc_30 : FnScope N_30 ["_law_condition", "_law_form_here"] (defScope s_30) := ⟨rfl, rfl, rfl, by decide +kernel, rfl, by decide +kernel, by decide +kernel⟩
theorem ok_30 (NS : Ns K mg) (HD : HDk hdn K w) (n : Nat) (ih : IH c P w mg base n) (M : FnM (L.gx K c) ⟨.g "_law_is_like", "_law_is_like", "_law_is_like", s_30, []⟩) : FnOk P w (L.gx K c).K mg base (L2.CX P w) (lv n + 1 + 1) ((.g "_law_is_like" : Pth).ad (L.gx K c).K) M.fd ["_law_condition", "_law_form_here"] (spF (L.gx K c) (bodyRun N_30.length (m_30 (run n))) (["_law_condition", "_law_form_here"] : List Str).length) := by
  refine fnd_ok (G := L.gx K c) (k := lv n + 1) (ms := m_30 (run n)) M.F sc_30 fun cdv A outer s H E hr cc => ?_
  exact sss_cons (ss_set (i := 2) cc.nd rfl (by first | exact Or.inl rfl | exact Or.inr rfl) (se_meth0 cc (se_var 0) rfl (me_parts_ok cc hr ih)))
    (sss_cons (ss_if (st_w (sw_or (st_cmp (oNe_ok cc hr ih) (se_callB (fns_len cc) rfl (NS.free c 3) (by decide +kernel) (sa_cons (se_var 2) (sa_nil))) (se_callB (fns_len cc) rfl (NS.free c 3) (by decide +kernel) (sa_cons (se_var 1) (sa_nil)))) (sw_or1 (st_cmp (oNe_ok cc hr ih) (se_ix (ixs_item cc) (se_var 2) (se_int)) (se_ix (ixs_item cc) (se_var 1) (se_int)))))) (sss_one (ss_ret (se_bl))) (sss_nil))
    (sss_cons (ss_if (st_cmp (oEq_ok cc hr ih) (se_ix (ixs_item cc) (se_var 1) (se_int)) (se_str [110, 111, 116])) (sss_one (ss_ret (se_call (fns_cal cc (ih.1 30 rfl rfl) (hr.mono (Nat.le_succ _))) rfl (NS.glo c 37) (keep_of c 37) (sa_cons (se_ix (ixs_item cc) (se_var 2) (se_int)) (sa_cons (se_ix (ixs_item cc) (se_var 1) (se_int)) (sa_nil)))))) (sss_nil))
    (sss_cons (ss_if (st_cmp (ops_in cc) (se_ix (ixs_item cc) (se_var 1) (se_int)) (se_lv (sa_cons (se_str [97, 110, 100]) (sa_cons (se_str [111, 114]) (sa_nil))) (szl rfl))) (sss_one (ss_ret (se_and (se_call (fns_cal cc (ih.1 30 rfl rfl) (hr.mono (Nat.le_succ _))) rfl (NS.glo c 37) (keep_of c 37) (sa_cons (se_ix (ixs_item cc) (se_var 2) (se_int)) (sa_cons (se_ix (ixs_item cc) (se_var 1) (se_int)) (sa_nil)))) (se_one (se_call (fns_cal cc (ih.1 30 rfl rfl) (hr.mono (Nat.le_succ _))) rfl (NS.glo c 37) (keep_of c 37) (sa_cons (se_ix (ixs_item cc) (se_var 2) (se_int)) (sa_cons (se_ix (ixs_item cc) (se_var 1) (se_int)) (sa_nil)))))))) (sss_nil))
    (sss_one (ss_ret (se_cmp (oEq_ok cc hr ih) (se_var 2) (se_var 1)))))))
theorem cal_30 (NS : Ns K mg) (HD : HDk hdn K w) (n : Nat) (ih : IH c P w mg base n) : Cal (L.gx K c) P w mg base (lv (n + 1)) ((.g "_law_is_like" : Pth).ad K) (run (n + 1) 30) := by
  obtain ⟨M⟩ := c.fn 30 rfl
  have hv : M.dvs = [] := List.eq_nil_of_length_eq_zero (by rw [← (M.rd ⟨[], []⟩ fun _ => none).length]; rfl)
  exact cal_defD (ok_30 NS HD n ih M) rfl (fun j hj => ⟨[], by rw [hv]; cases j <;> exact .nil, FunD.bindsN (ps := ["_law_condition", "_law_form_here"]) (hv ▸ M.F) fun _ _ _ _ _ _ us hl => match us, hl with | [_, _], _ => rfl⟩) M.rd
abbrev N_31 : List Str := ["_law_field", "_law_thing"]
theorem sc_31 : FnScope N_31 ["_law_field", "_law_thing"] (defScope s_31) := ⟨rfl, rfl, rfl, by decide +kernel, rfl, by decide +kernel, by decide +kernel⟩
theorem ok_31 (NS : Ns K mg) (HD : HDk hdn K w) (n : Nat) (ih : IH c P w mg base n) (M : FnM (L.gx K c) ⟨.g "_law_atom", "_law_atom", "_law_atom", s_31, []⟩) : FnOk P w (L.gx K c).K mg base (L2.CX P w) (lv n + 1 + 1) ((.g "_law_atom" : Pth).ad (L.gx K c).K) M.fd ["_law_field", "_law_thing"] (spF (L.gx K c) (bodyRun N_31.length (m_31 (run n))) (["_law_field", "_law_thing"] : List Str).length) := by
  refine fnd_ok (G := L.gx K c) (k := lv n + 1) (ms := m_31 (run n)) M.F sc_31 fun cdv A outer s H E hr cc => ?_
  exact sss_cons (ss_if (st_cmp (oEq_ok cc hr ih) (se_var 0) (se_str [107, 105, 110, 100])) (sss_one (ss_ret (se_kw (kn := [[107, 105, 110, 100]]) cc (ih.2.2 [[107, 105, 110, 100]] (by decide +kernel)) (hr.mono (Nat.le_succ _)) rfl (NS.glo c 38) (keep_of c 38) (SKs.cons (se_var 1) (SKs.nil)) (by kernel_rfl)))) (sss_nil))
    (sss_cons (ss_if (st_cmp (oEq_ok cc hr ih) (se_var 0) (se_str [108, 101, 118, 101, 108])) (sss_one (ss_ret (se_kw (kn := [[108, 101, 118, 101, 108]]) cc (ih.2.2 [[108, 101, 118, 101, 108]] (by decide +kernel)) (hr.mono (Nat.le_succ _)) rfl (NS.glo c 38) (keep_of c 38) (SKs.cons (se_var 1) (SKs.nil)) (by kernel_rfl)))) (sss_nil))
    (sss_cons (ss_if (st_cmp (oEq_ok cc hr ih) (se_var 0) (se_str [97, 99, 99, 101, 115, 115])) (sss_one (ss_ret (se_kw (kn := [[97, 99, 99, 101, 115, 115]]) cc (ih.2.2 [[97, 99, 99, 101, 115, 115]] (by decide +kernel)) (hr.mono (Nat.le_succ _)) rfl (NS.glo c 38) (keep_of c 38) (SKs.cons (se_var 1) (SKs.nil)) (by kernel_rfl)))) (sss_nil))
    (sss_cons (ss_if (st_cmp (oEq_ok cc hr ih) (se_var 0) (se_str [111, 116, 104, 101, 114])) (sss_one (ss_ret (se_kw (kn := [[111, 116, 104, 101, 114]]) cc (ih.2.2 [[111, 116, 104, 101, 114]] (by decide +kernel)) (hr.mono (Nat.le_succ _)) rfl (NS.glo c 38) (keep_of c 38) (SKs.cons (se_var 1) (SKs.nil)) (by kernel_rfl)))) (sss_nil))
    (sss_one (ss_ret (se_if (st_cmp (oEq_ok cc hr ih) (se_var 0) (se_str [97, 114, 114, 97, 121])) (se_kw (kn := [[97, 114, 114, 97, 121]]) cc (ih.2.2 [[97, 114, 114, 97, 121]] (by decide +kernel)) (hr.mono (Nat.le_succ _)) rfl (NS.glo c 38) (keep_of c 38) (SKs.cons (se_var 1) (SKs.nil)) (by kernel_rfl)) (se_kw (kn := [[119, 111, 114, 100]]) cc (ih.2.2 [[119, 111, 114, 100]] (by decide +kernel)) (hr.mono (Nat.le_succ _)) rfl (NS.glo c 38) (keep_of c 38) (SKs.cons (se_var 1) (SKs.nil)) (by kernel_rfl))))))))
theorem cal_31 (NS : Ns K mg) (HD : HDk hdn K w) (n : Nat) (ih : IH c P w mg base n) : Cal (L.gx K c) P w mg base (lv (n + 1)) ((.g "_law_atom" : Pth).ad K) (run (n + 1) 31) := by
  obtain ⟨M⟩ := c.fn 31 rfl
  have hv : M.dvs = [] := List.eq_nil_of_length_eq_zero (by rw [← (M.rd ⟨[], []⟩ fun _ => none).length]; rfl)
  exact cal_defD (ok_31 NS HD n ih M) rfl (fun j hj => ⟨[], by rw [hv]; cases j <;> exact .nil, FunD.bindsN (ps := ["_law_field", "_law_thing"]) (hv ▸ M.F) fun _ _ _ _ _ _ us hl => match us, hl with | [_, _], _ => rfl⟩) M.rd
abbrev N_32 : List Str := ["_law_form_here", "_law_one", "_law_two"]
theorem sc_32 : FnScope N_32 ["_law_form_here"] (defScope s_32) := ⟨rfl, rfl, rfl, by decide +kernel, rfl, by decide +kernel, by decide +kernel⟩
theorem ok_32 (NS : Ns K mg) (HD : HDk hdn K w) (n : Nat) (ih : IH c P w mg base n) (M : FnM (L.gx K c) ⟨.g "_law_built", "_law_built", "_law_built", s_32, []⟩) : FnOk P w (L.gx K c).K mg base (L2.CX P w) (lv n + 1 + 1) ((.g "_law_built" : Pth).ad (L.gx K c).K) M.fd ["_law_form_here"] (spF (L.gx K c) (bodyRun N_32.length (m_32 (run n))) (["_law_form_here"] : List Str).length) := by
  refine fnd_ok (G := L.gx K c) (k := lv n + 1) (ms := m_32 (run n)) M.F sc_32 fun cdv A outer s H E hr cc => ?_
  exact sss_cons (ss_if (st_cmp (oEq_ok cc hr ih) (se_ix (ixs_item cc) (se_var 0) (se_int)) (se_str [97, 110, 121])) (sss_one (ss_ret (se_call0 (fns_calK0 cc (ih.2.2 [] (by decide +kernel)) (hr.mono (Nat.le_succ _))) rfl (NS.glo c 38) (keep_of c 38)))) (sss_nil))
    (sss_cons (ss_if (st_cmp (oEq_ok cc hr ih) (se_ix (ixs_item cc) (se_var 0) (se_int)) (se_str [110, 111, 116])) (sss_one (ss_ret (se_un (oInv_ok cc hr ih) (se_call (fns_cal cc (ih.1 32 rfl rfl) (hr.mono (Nat.le_succ _))) rfl (NS.glo c 39) (keep_of c 39) (sa_cons (se_ix (ixs_item cc) (se_var 0) (se_int)) (sa_nil)))))) (sss_nil))
    (sss_cons (ss_if (st_cmp (ops_in cc) (se_ix (ixs_item cc) (se_var 0) (se_int)) (se_lv (sa_cons (se_str [97, 110, 100]) (sa_cons (se_str [111, 114]) (sa_nil))) (szl rfl))) (sss_cons (ss_par (i := 1) (j := 2) cc.calm cc.nd rfl rfl (by decide) rfl rfl (sa_cons (se_call (fns_cal cc (ih.1 32 rfl rfl) (hr.mono (Nat.le_succ _))) rfl (NS.glo c 39) (keep_of c 39) (sa_cons (se_ix (ixs_item cc) (se_var 0) (se_int)) (sa_nil))) (sa_cons (se_call (fns_cal cc (ih.1 32 rfl rfl) (hr.mono (Nat.le_succ _))) rfl (NS.glo c 39) (keep_of c 39) (sa_cons (se_ix (ixs_item cc) (se_var 0) (se_int)) (sa_nil))) (sa_nil))))
    (sss_one (ss_ret (se_if (st_cmp (oEq_ok cc hr ih) (se_ix (ixs_item cc) (se_var 0) (se_int)) (se_str [97, 110, 100])) (se_bin (oBitAnd_ok cc hr ih) (se_var 1) (se_var 2)) (se_bin (oBitOr_ok cc hr ih) (se_var 1) (se_var 2)))))) (sss_nil))
    (sss_one (ss_ret (se_call (fns_cal cc (ih.1 31 rfl rfl) (hr.mono (Nat.le_succ _))) rfl (NS.glo c 40) (keep_of c 40) (sa_cons (se_ix (ixs_item cc) (se_var 0) (se_int)) (sa_cons (se_ix (ixs_item cc) (se_var 0) (se_int)) (sa_nil))))))))
theorem cal_32 (NS : Ns K mg) (HD : HDk hdn K w) (n : Nat) (ih : IH c P w mg base n) : Cal (L.gx K c) P w mg base (lv (n + 1)) ((.g "_law_built" : Pth).ad K) (run (n + 1) 32) := by
  obtain ⟨M⟩ := c.fn 32 rfl
  have hv : M.dvs = [] := List.eq_nil_of_length_eq_zero (by rw [← (M.rd ⟨[], []⟩ fun _ => none).length]; rfl)
  exact cal_defD (ok_32 NS HD n ih M) rfl (fun j hj => ⟨[], by rw [hv]; cases j <;> exact .nil, FunD.bindsN (ps := ["_law_form_here"]) (hv ▸ M.F) fun _ _ _ _ _ _ us hl => match us, hl with | [_], _ => rfl⟩) M.rd
abbrev N_33 : List Str := ["_law_pool_here", "_law_tokens", "_law_gaps", "_law_text_here", "_law_token", "_law_gap", "_law_is_tight"]
theorem sc_33 : FnScope N_33 ["_law_pool_here", "_law_tokens"] (defScope s_33) := ⟨rfl, rfl, rfl, by decide +kernel, rfl, by decide +kernel, by decide +kernel⟩
theorem ok_33 (NS : Ns K mg) (HD : HDk hdn K w) (n : Nat) (ih : IH c P w mg base n) (M : FnM (L.gx K c) ⟨.g "_law_text", "_law_text", "_law_text", s_33, []⟩) : FnOk P w (L.gx K c).K mg base (L2.CX P w) (lv n + 1 + 1) ((.g "_law_text" : Pth).ad (L.gx K c).K) M.fd ["_law_pool_here", "_law_tokens"] (spF (L.gx K c) (bodyRun N_33.length (m_33 (run n))) (["_law_pool_here", "_law_tokens"] : List Str).length) := by
  refine fnd_ok (G := L.gx K c) (k := lv n + 1) (ms := m_33 (run n)) M.F sc_33 fun cdv A outer s H E hr cc => ?_
  exact sss_cons (ss_par (i := 2) (j := 3) cc.calm cc.nd rfl rfl (by decide) rfl rfl (sa_cons (se_lv (sa_cons (se_str [32]) (sa_cons (se_str [10]) (sa_cons (se_str [32, 32]) (sa_nil)))) (szl rfl)) (sa_cons (se_str []) (sa_nil))))
    (sss_cons (ss_for 100000 cc (si_or (si_seq cc (se_var 1)) (si_txt (se_var 1))) (sg_name cc.nd rfl (by first | exact Or.inl rfl | exact Or.inr rfl)) (sss_cons (ss_set (i := 5) cc.nd rfl (by first | exact Or.inl rfl | exact Or.inr rfl) (se_ix (ixs_item cc) (se_var 2) (se_call (fns_cal cc (ih.1 26 rfl rfl) (hr.mono (Nat.le_succ _))) rfl (NS.glo c 33) (keep_of c 33) (sa_cons (se_var 0) (sa_cons (se_int) (sa_nil))))))
    (sss_cons (ss_set (i := 6) cc.nd rfl (by first | exact Or.inl rfl | exact Or.inr rfl) (se_and (se_cmp ops_inT (se_var 4) (se_str [40, 41])) (se_one (se_cmp (oEq_ok cc hr ih) (se_call (fns_cal cc (ih.1 26 rfl rfl) (hr.mono (Nat.le_succ _))) rfl (NS.glo c 33) (keep_of c 33) (sa_cons (se_var 0) (sa_cons (se_int) (sa_nil)))) (se_int)))))
    (sss_cons (ss_if (st_w (sw_or (st_w (sw_and (st_cmp (oNe_ok cc hr ih) (se_var 3) (se_str [])) (sw_and1 (st_not (st_tru cc (se_var 6)))))) (sw_or1 (st_cmp (oEq_ok cc hr ih) (se_call (fns_cal cc (ih.1 26 rfl rfl) (hr.mono (Nat.le_succ _))) rfl (NS.glo c 33) (keep_of c 33) (sa_cons (se_var 0) (sa_cons (se_int) (sa_nil)))) (se_int))))) (sss_one (ss_set (i := 3) cc.nd rfl (by first | exact Or.inl rfl | exact Or.inr rfl) (se_bin (oAdd_ok cc hr ih) (se_var 3) (se_var 5)))) (sss_nil))
    (sss_cons (ss_set (i := 3) cc.nd rfl (by first | exact Or.inl rfl | exact Or.inr rfl) (se_bin (oAdd_ok cc hr ih) (se_var 3) (se_var 4)))
    (sss_one (ss_set (i := 3) cc.nd rfl (by first | exact Or.inl rfl | exact Or.inr rfl) (se_bin (oAdd_ok cc hr ih) (se_var 3) (se_if (st_w (sw_or (st_cmp ops_notInT (se_var 4) (se_str [40, 41])) (sw_or1 (st_cmp (oEq_ok cc hr ih) (se_call (fns_cal cc (ih.1 26 rfl rfl) (hr.mono (Nat.le_succ _))) rfl (NS.glo c 33) (keep_of c 33) (sa_cons (se_var 0) (sa_cons (se_int) (sa_nil)))) (se_int))))) (se_str []) (se_str [32]))))))))))
    (sss_one (ss_ret (se_var 3))))
theorem cal_33 (NS : Ns K mg) (HD : HDk hdn K w) (n : Nat) (ih : IH c P w mg base n) : Cal (L.gx K c) P w mg base (lv (n + 1)) ((.g "_law_text" : Pth).ad K) (run (n + 1) 33) := by
  obtain ⟨M⟩ := c.fn 33 rfl
  have hv : M.dvs = [] := List.eq_nil_of_length_eq_zero (by rw [← (M.rd ⟨[], []⟩ fun _ => none).length]; rfl)
  exact cal_defD (ok_33 NS HD n ih M) rfl (fun j hj => ⟨[], by rw [hv]; cases j <;> exact .nil, FunD.bindsN (ps := ["_law_pool_here", "_law_tokens"]) (hv ▸ M.F) fun _ _ _ _ _ _ us hl => match us, hl with | [_, _], _ => rfl⟩) M.rd
abbrev N_34 : List Str := ["_law_pool_here", "_law_form_here", "_law_found", "_law_turn"]
theorem sc_34 : FnScope N_34 ["_law_pool_here", "_law_form_here"] (defScope s_34) := ⟨rfl, rfl, rfl, by decide +kernel, rfl, by decide +kernel, by decide +kernel⟩
theorem ok_34 (NS : Ns K mg) (HD : HDk hdn K w) (n : Nat) (ih : IH c P w mg base n) (M : FnM (L.gx K c) ⟨.g "_law_more", "_law_more", "_law_more", s_34, []⟩) : FnOk P w (L.gx K c).K mg base (L2.CX P w) (lv n + 1 + 1) ((.g "_law_more" : Pth).ad (L.gx K c).K) M.fd ["_law_pool_here", "_law_form_here"] (spF (L.gx K c) (bodyRun N_34.length (m_34 (run n))) (["_law_pool_here", "_law_form_here"] : List Str).length) := by
  refine fnd_ok (G := L.gx K c) (k := lv n + 1) (ms := m_34 (run n)) M.F sc_34 fun cdv A outer s H E hr cc => ?_
  exact sss_cons (ss_set (i := 2) cc.nd rfl (by first | exact Or.inl rfl | exact Or.inr rfl) (se_call (fns_cal cc (ih.1 29 rfl rfl) (hr.mono (Nat.le_succ _))) rfl (NS.glo c 36) (keep_of c 36) (sa_cons (se_var 1) (sa_cons (se_int) (sa_nil)))))
    (sss_cons (ss_for 100000 cc (si_range1 (sa_cons (se_call (fns_cal cc (ih.1 26 rfl rfl) (hr.mono (Nat.le_succ _))) rfl (NS.glo c 33) (keep_of c 33) (sa_cons (se_var 0) (sa_cons (se_int) (sa_nil)))) (sa_nil)) rfl (NS.free c 41)) (sg_name cc.nd rfl (by first | exact Or.inl rfl | exact Or.inr rfl)) (sss_one (ss_set (i := 2) cc.nd rfl (by first | exact Or.inl rfl | exact Or.inr rfl) (se_bin (oAdd_ok cc hr ih) (se_bin (oAdd_ok cc hr ih) (se_lv (sa_cons (se_str [40]) (sa_nil)) (szl rfl)) (se_var 2)) (se_lv (sa_cons (se_str [41]) (sa_nil)) (szl rfl))))))
    (sss_one (ss_ret (se_var 2))))
theorem cal_34 (NS : Ns K mg) (HD : HDk hdn K w) (n : Nat) (ih : IH c P w mg base n) : Cal (L.gx K c) P w mg base (lv (n + 1)) ((.g "_law_more" : Pth).ad K) (run (n + 1) 34) := by
  obtain ⟨M⟩ := c.fn 34 rfl
  have hv : M.dvs = [] := List.eq_nil_of_length_eq_zero (by rw [← (M.rd ⟨[], []⟩ fun _ => none).length]; rfl)
  exact cal_defD (ok_34 NS HD n ih M) rfl (fun j hj => ⟨[], by rw [hv]; cases j <;> exact .nil, FunD.bindsN (ps := ["_law_pool_here", "_law_form_here"]) (hv ▸ M.F) fun _ _ _ _ _ _ us hl => match us, hl with | [_, _], _ => rfl⟩) M.rd
abbrev N_35 : List Str := ["_law_script", "_law_k", "_law_pool_here", "_law_turn", "_law_form_here", "_law_texts", "_law_text_here", "_law_told", "_law_more_here", "_law_one", "_law_two", "_law_three", "_law_words_here", "_law_link", "_law_due", "_law_loose"]
theorem sc_35 : FnScope N_35 ["_law_script"] (defScope s_35) := ⟨rfl, rfl, rfl, by decide +kernel, rfl, by decide +kernel, by decide +kernel⟩
theorem ok_35 (NS : Ns K mg) (HD : HDk hdn K w) (n : Nat) (ih : IH c P w mg base n) (M : FnM (L.gx K c) ⟨.g "law", "law", "law", s_35, []⟩) : FnOk P w (L.gx K c).K mg base (L2.CX P w) (lv n + 1 + 1) ((.g "law" : Pth).ad (L.gx K c).K) M.fd ["_law_script"] (spF (L.gx K c) (bodyRun N_35.length (m_35 (run n))) (["_law_script"] : List Str).length) := by
  refine fnd_ok (G := L.gx K c) (k := lv n + 1) (ms := m_35 (run n)) M.F sc_35 fun cdv A outer s H E hr cc => ?_
  exact sss_cons (ss_for 100000 cc (si_range1 (sa_cons (se_callB (fns_max2 cc) rfl (NS.free c 43) (by decide +kernel) (sa_cons (se_int) (sa_cons (se_callB (fns_min2 cc) rfl (NS.free c 42) (by decide +kernel) (sa_cons (se_callB (fns_len cc) rfl (NS.free c 3) (by decide +kernel) (sa_cons (se_var 0) (sa_nil))) (sa_cons (se_int) (sa_nil)))) (sa_nil)))) (sa_nil)) rfl (NS.free c 41)) (sg_name cc.nd rfl (by first | exact Or.inl rfl | exact Or.inr rfl)) (sss_cons (ss_set (i := 2) cc.nd rfl (by first | exact Or.inl rfl | exact Or.inr rfl) (se_call (fns_cal cc (ih.1 25 rfl rfl) (hr.mono (Nat.le_succ _))) rfl (NS.glo c 44) (keep_of c 44) (sa_cons (se_var 0) (sa_cons (se_var 1) (sa_nil)))))
    (sss_cons (ss_for 100000 cc (si_range1 (sa_cons (se_int) (sa_nil)) rfl (NS.free c 41)) (sg_name cc.nd rfl (by first | exact Or.inl rfl | exact Or.inr rfl)) (sss_cons (ss_set (i := 4) cc.nd rfl (by first | exact Or.inl rfl | exact Or.inr rfl) (se_call (fns_cal cc (ih.1 28 rfl rfl) (hr.mono (Nat.le_succ _))) rfl (NS.glo c 35) (keep_of c 35) (sa_cons (se_var 2) (sa_cons (se_int) (sa_nil)))))
    (sss_cons (ss_set (i := 5) cc.nd rfl (by first | exact Or.inl rfl | exact Or.inr rfl) (se_lv (sa_cons (se_bm PySem.F.plainAttrs_str PySem.F.slot_str_join PySem.F.type_str_join (mts_join cc) ck_str (se_str [32]) (sa_cons (se_call (fns_cal cc (ih.1 29 rfl rfl) (hr.mono (Nat.le_succ _))) rfl (NS.glo c 36) (keep_of c 36) (sa_cons (se_var 4) (sa_cons (se_int) (sa_nil)))) (sa_nil))) (sa_cons (se_call (fns_cal cc (ih.1 33 rfl rfl) (hr.mono (Nat.le_succ _))) rfl (NS.glo c 46) (keep_of c 46) (sa_cons (se_var 2) (sa_cons (se_call (fns_cal cc (ih.1 34 rfl rfl) (hr.mono (Nat.le_succ _))) rfl (NS.glo c 45) (keep_of c 45) (sa_cons (se_var 2) (sa_cons (se_var 4) (sa_nil)))) (sa_nil)))) (sa_nil))) (szl rfl)))
    (sss_cons (ss_for 100000 cc (si_or (si_seq cc (se_var 5)) (si_txt (se_var 5))) (sg_name cc.nd rfl (by first | exact Or.inl rfl | exact Or.inr rfl)) (sss_cons (ss_set (i := 7) cc.nd rfl (by first | exact Or.inl rfl | exact Or.inr rfl) (se_call (fns_cal cc (ih.1 24 rfl rfl) (hr.mono (Nat.le_succ _))) rfl (NS.glo c 47) (keep_of c 47) (sa_cons (se_var 6) (sa_nil))))
    (sss_cons (ss_if (st_w (sw_or (st_not (st_tru cc (se_call (fns_cal cc (ih.1 30 rfl rfl) (hr.mono (Nat.le_succ _))) rfl (NS.glo c 37) (keep_of c 37) (sa_cons (se_var 7) (sa_cons (se_var 4) (sa_nil)))))) (sw_or1 (st_not (st_tru cc (se_call (fns_cal cc (ih.1 30 rfl rfl) (hr.mono (Nat.le_succ _))) rfl (NS.glo c 37) (keep_of c 37) (sa_cons (se_call (fns_cal cc (ih.1 32 rfl rfl) (hr.mono (Nat.le_succ _))) rfl (NS.glo c 39) (keep_of c 39) (sa_cons (se_var 4) (sa_nil))) (sa_cons (se_var 4) (sa_nil))))))))) (sss_one (ss_ret (se_bl))) (sss_nil))
    (sss_one (ss_if (st_w (sw_or (st_cmp (oNe_ok cc hr ih) (se_var 7) (se_call (fns_cal cc (ih.1 32 rfl rfl) (hr.mono (Nat.le_succ _))) rfl (NS.glo c 39) (keep_of c 39) (sa_cons (se_var 4) (sa_nil)))) (sw_or (st_cmp (oEq_ok cc hr ih) (se_var 7) (se_var 4)) (sw_or1 (st_not (st_cmp (oEq_ok cc hr ih) (se_var 7) (se_call (fns_cal cc (ih.1 24 rfl rfl) (hr.mono (Nat.le_succ _))) rfl (NS.glo c 47) (keep_of c 47) (sa_cons (se_var 6) (sa_nil))))))))) (sss_one (ss_ret (se_bl))) (sss_nil))))))
    (sss_cons (ss_set (i := 8) cc.nd rfl (by first | exact Or.inl rfl | exact Or.inr rfl) (se_call (fns_cal cc (ih.1 28 rfl rfl) (hr.mono (Nat.le_succ _))) rfl (NS.glo c 35) (keep_of c 35) (sa_cons (se_var 2) (sa_cons (se_int) (sa_nil)))))
    (sss_one (ss_if (st_cmp (oNe_ok cc hr ih) (se_cmp (oEq_ok cc hr ih) (se_call (fns_cal cc (ih.1 24 rfl rfl) (hr.mono (Nat.le_succ _))) rfl (NS.glo c 47) (keep_of c 47) (sa_cons (se_bm PySem.F.plainAttrs_str PySem.F.slot_str_join PySem.F.type_str_join (mts_join cc) ck_str (se_str [32]) (sa_cons (se_call (fns_cal cc (ih.1 29 rfl rfl) (hr.mono (Nat.le_succ _))) rfl (NS.glo c 36) (keep_of c 36) (sa_cons (se_var 8) (sa_cons (se_int) (sa_nil)))) (sa_nil))) (sa_nil))) (se_call (fns_cal cc (ih.1 32 rfl rfl) (hr.mono (Nat.le_succ _))) rfl (NS.glo c 39) (keep_of c 39) (sa_cons (se_var 4) (sa_nil)))) (se_cmp (oEq_ok cc hr ih) (se_var 8) (se_var 4))) (sss_one (ss_ret (se_bl))) (sss_nil))))))))
    (sss_cons (ss_asg (se_lcc (own := [("_law_turn", 3)]) (t := (.one 3)) 100000 cc (si_range1 (sa_cons (se_int) (sa_nil)) rfl (NS.free c 41)) (blkOk_by (N := N_35) (sc := defScope s_35) (by decide +kernel)) (by decide) (fun _ _ _ _ _ cc => pg_name cc.nd rfl (by first | exact Or.inl rfl | exact Or.inr rfl)) (fun _ _ _ _ _ cc => sts_nil) (fun _ _ _ _ _ cc => se_ix (ixs_item cc) (se_call (fns_cal cc (ih.1 27 rfl rfl) (hr.mono (Nat.le_succ _))) rfl (NS.glo c 34) (keep_of c 34) (sa_cons (se_var 2) (sa_nil))) (se_call (fns_cal cc (ih.1 26 rfl rfl) (hr.mono (Nat.le_succ _))) rfl (NS.glo c 33) (keep_of c 33) (sa_cons (se_var 2) (sa_cons (se_int) (sa_nil)))))) (sg_lst cc (sgs_cons (sg_name cc.nd rfl (by first | exact Or.inl rfl | exact Or.inr rfl)) (sgs_cons (sg_name cc.nd rfl (by first | exact Or.inl rfl | exact Or.inr rfl)) (sgs_cons (sg_name cc.nd rfl (by first | exact Or.inl rfl | exact Or.inr rfl)) (sgs_nil))))))
    (sss_cons (ss_setLc (i := 12) (own := [("_law_form_here", 4)]) (t := (.one 4)) 100000 cc rfl rfl rfl rfl rfl (si_or (si_seq cc (se_lv (sa_cons (se_var 9) (sa_cons (se_var 10) (sa_cons (se_var 11) (sa_nil)))) (szl rfl))) (si_txt (se_lv (sa_cons (se_var 9) (sa_cons (se_var 10) (sa_cons (se_var 11) (sa_nil)))) (szl rfl)))) (blkOk_by (N := N_35) (sc := defScope s_35) (by decide +kernel)) (by decide) (fun _ _ _ _ _ cc => pg_name cc.nd rfl (by first | exact Or.inl rfl | exact Or.inr rfl)) (fun _ _ _ _ _ cc => sts_nil) (fun _ _ _ _ _ cc => se_bm PySem.F.plainAttrs_str PySem.F.slot_str_join PySem.F.type_str_join (mts_join cc) ck_str (se_str [32]) (sa_cons (se_call (fns_cal cc (ih.1 29 rfl rfl) (hr.mono (Nat.le_succ _))) rfl (NS.glo c 36) (keep_of c 36) (sa_cons (se_var 4) (sa_cons (se_int) (sa_nil)))) (sa_nil))))
    (sss_cons (ss_for 100000 cc (si_or (si_seq cc (se_lv (sa_cons (se_str [97, 110, 100]) (sa_cons (se_str [111, 114]) (sa_nil))) (szl rfl))) (si_txt (se_lv (sa_cons (se_str [97, 110, 100]) (sa_cons (se_str [111, 114]) (sa_nil))) (szl rfl)))) (sg_name cc.nd rfl (by first | exact Or.inl rfl | exact Or.inr rfl)) (sss_cons (ss_set (i := 14) cc.nd rfl (by first | exact Or.inl rfl | exact Or.inr rfl) (se_tup (sa_cons (se_var 13) (sa_cons (se_tup (sa_cons (se_var 13) (sa_cons (se_var 9) (sa_cons (se_var 10) (sa_nil)))) (szl rfl)) (sa_cons (se_var 11) (sa_nil)))) (szl rfl)))
    (sss_one (ss_if (st_not (st_tru cc (se_call (fns_cal cc (ih.1 30 rfl rfl) (hr.mono (Nat.le_succ _))) rfl (NS.glo c 37) (keep_of c 37) (sa_cons (se_call (fns_cal cc (ih.1 24 rfl rfl) (hr.mono (Nat.le_succ _))) rfl (NS.glo c 47) (keep_of c 47) (sa_cons (se_bm PySem.F.plainAttrs_str PySem.F.slot_str_join PySem.F.type_str_join (mts_join cc) ck_str (se_bin (oAdd_ok cc hr ih) (se_bin (oAdd_ok cc hr ih) (se_str [32]) (se_var 13)) (se_str [32])) (sa_cons (se_var 12) (sa_nil))) (sa_nil))) (sa_cons (se_var 14) (sa_nil)))))) (sss_one (ss_ret (se_bl))) (sss_nil)))))
    (sss_cons (ss_set (i := 15) cc.nd rfl (by first | exact Or.inl rfl | exact Or.inr rfl) (se_call (fns_cal cc (ih.1 24 rfl rfl) (hr.mono (Nat.le_succ _))) rfl (NS.glo c 47) (keep_of c 47) (sa_cons (se_bin (oAdd_ok cc hr ih) (se_bin (oAdd_ok cc hr ih) (se_bin (oAdd_ok cc hr ih) (se_bin (oAdd_ok cc hr ih) (se_ix (ixs_item cc) (se_var 12) (se_int)) (se_str [32, 111, 114, 32, 110, 111, 116, 32])) (se_ix (ixs_item cc) (se_var 12) (se_int))) (se_str [32, 97, 110, 100, 32])) (se_ix (ixs_item cc) (se_var 12) (se_int))) (sa_nil))))
    (sss_one (ss_if (st_not (st_tru cc (se_call (fns_cal cc (ih.1 30 rfl rfl) (hr.mono (Nat.le_succ _))) rfl (NS.glo c 37) (keep_of c 37) (sa_cons (se_var 15) (sa_cons (se_tup (sa_cons (se_str [111, 114]) (sa_cons (se_var 9) (sa_cons (se_tup (sa_cons (se_str [97, 110, 100]) (sa_cons (se_tup (sa_cons (se_str [110, 111, 116]) (sa_cons (se_var 10) (sa_nil))) (szl rfl)) (sa_cons (se_var 11) (sa_nil)))) (szl rfl)) (sa_nil)))) (szl rfl)) (sa_nil)))))) (sss_one (ss_ret (se_bl))) (sss_nil))))))))))
    (sss_one (ss_ret (se_cmp (oEq_ok cc hr ih) (se_meth0 cc (se_call0 (fns_calK0 cc (ih.2.2 [] (by decide +kernel)) (hr.mono (Nat.le_succ _))) rfl (NS.glo c 38) (keep_of c 38)) rfl (me_parts_ok cc hr ih)) (se_tup (sa_cons (se_str [97, 110, 121]) (sa_nil)) (szl rfl)))))
theorem cal_35 (NS : Ns K mg) (HD : HDk hdn K w) (n : Nat) (ih : IH c P w mg base n) : Cal (L.gx K c) P w mg base (lv (n + 1)) ((.g "law" : Pth).ad K) (run (n + 1) 35) := by
  obtain ⟨M⟩ := c.fn 35 rfl
  have hv : M.dvs = [] := List.eq_nil_of_length_eq_zero (by rw [← (M.rd ⟨[], []⟩ fun _ => none).length]; rfl)
  exact cal_defD (ok_35 NS HD n ih M) rfl (fun j hj => ⟨[], by rw [hv]; cases j <;> exact .nil, FunD.bindsN (ps := ["_law_script"]) (hv ▸ M.F) fun _ _ _ _ _ _ us hl => match us, hl with | [_], _ => rfl⟩) M.rd
theorem all (NS : Ns K mg) (HD : HDk hdn K w) : ∀ n, IH c P w mg base n
  | 0 => ⟨fun j _ _ _ => cal0, fun j _ _ => calG0, fun kn _ => calK0⟩
  | n + 1 => by
    have ih := all NS HD n
    have one : ∀ (j : Nat) {d : DefM}, defs[j]? = some d → isG j = false → Cal (L.gx K c) P w mg base (lv (n + 1)) (d.pth.ad K) (run (n + 1) j) := fun j d h z => by
      match j, h with
      | 0, h => cases h; exact cal0
      | 1, h => cases h; exact cal0
      | 2, h => cases h; exact cal0
      | 3, h => cases h; exact cal0
      | 4, h => cases h; exact cal_4 NS HD n ih
      | 5, h => cases h; exact cal_5 NS HD n ih
      | 6, h => cases h; exact cal_6 NS HD n ih
      | 7, h => cases h; exact cal_7 NS HD n ih
      | 8, h => cases h; exact cal_8 NS HD n ih
      | 9, h => cases h; exact cal0
      | 10, h => cases h; exact cal_10 NS HD n ih
      | 11, h => cases h; exact cal_11 NS HD n ih
      | 12, h => cases h; exact cal_12 NS HD n ih
      | 13, h => cases h; exact cal_13 NS HD n ih
      | 14, h => cases h; exact cal0
      | 15, h => cases h; exact cal_15 NS HD n ih
      | 16, h => cases h; exact cal_16 NS HD n ih
      | 17, h => cases h; exact cal_17 NS HD n ih
      | 18, h => cases h; exact cal_18 NS HD n ih
      | 19, h => cases h; exact cal_19 NS HD n ih
      | 20, h => cases h; exact cal_20 NS HD n ih
      | 21, h => cases h; exact cal_21 NS HD n ih
      | 22, h => cases h; exact cal_22 NS HD n ih
      | 23, h => cases h; exact cal_23 NS HD n ih
      | 24, h => cases h; exact cal_24 NS HD n ih
      | 25, h => cases h; exact cal_25 NS HD n ih
      | 26, h => cases h; exact cal_26 NS HD n ih
      | 27, h => cases h; exact cal_27 NS HD n ih
      | 28, h => cases h; exact cal_28 NS HD n ih
      | 29, h => cases h; exact cal_29 NS HD n ih
      | 30, h => cases h; exact cal_30 NS HD n ih
      | 31, h => cases h; exact cal_31 NS HD n ih
      | 32, h => cases h; exact cal_32 NS HD n ih
      | 33, h => cases h; exact cal_33 NS HD n ih
      | 34, h => cases h; exact cal_34 NS HD n ih
      | 35, h => cases h; exact cal_35 NS HD n ih
      | k + 36, h => exact absurd h (by simp [defs])
    refine ⟨one, fun j d h => ?_, ok_14 NS HD n ih⟩
    match j, h with
    | 0, h => exact (one 0 h rfl).toG
    | 1, h => exact (one 1 h rfl).toG
    | 2, h => exact (one 2 h rfl).toG
    | 3, h => exact (one 3 h rfl).toG
    | 4, h => exact (one 4 h rfl).toG
    | 5, h => exact (one 5 h rfl).toG
    | 6, h => exact (one 6 h rfl).toG
    | 7, h => exact (one 7 h rfl).toG
    | 8, h => exact (one 8 h rfl).toG
    | 9, h => exact (one 9 h rfl).toG
    | 10, h => exact (one 10 h rfl).toG
    | 11, h => exact (one 11 h rfl).toG
    | 12, h => exact (one 12 h rfl).toG
    | 13, h => exact (one 13 h rfl).toG
    | 14, h => exact (one 14 h rfl).toG
    | 15, h => exact (one 15 h rfl).toG
    | 16, h => exact (one 16 h rfl).toG
    | 17, h => exact (one 17 h rfl).toG
    | 18, h => exact (one 18 h rfl).toG
    | 19, h => exact (one 19 h rfl).toG
    | 20, h => exact (one 20 h rfl).toG
    | 21, h => exact (one 21 h rfl).toG
    | 22, h => exact (one 22 h rfl).toG
    | 23, h => exact (one 23 h rfl).toG
    | 24, h => exact (one 24 h rfl).toG
    | 25, h => exact (one 25 h rfl).toG
    | 26, h => exact (one 26 h rfl).toG
    | 27, h => exact (one 27 h rfl).toG
    | 28, h => exact (one 28 h rfl).toG
    | 29, h => exact (one 29 h rfl).toG
    | 30, h => exact (one 30 h rfl).toG
    | 31, h => exact (one 31 h rfl).toG
    | 32, h => exact (one 32 h rfl).toG
    | 33, h => exact (one 33 h rfl).toG
    | 34, h => exact (one 34 h rfl).toG
    | 35, h => exact (one 35 h rfl).toG
    | k + 36, h => exact absurd h (by simp [defs])
end
end L2.Mi.Pg

set_option Elab.async false
set_option linter.all false
set_option maxRecDepth 100000
set_option maxHeartbeats 4000000
namespace L2.Mi.Pg
open PySem PySem.Spec PyProof.Rows
theorem ob_eq (s : PySem.W.SharedT) : ob s = hk.obs s.abs := Lw.obsH_eq (HandSHeadRun.getT_eq s)
end L2.Mi.Pg

set_option Elab.async false
set_option linter.all false
set_option maxRecDepth 100000
set_option maxHeartbeats 1000000
namespace L2.Mi.Pg
open PySem
inductive At : D → Prop
  | non : At .non
  | int (i : Int) : At (.int i)
  | str (x : List Nat) : Txt x → At (.str x)
theorem At.ok {v : D} (h : At v) : okD 0 v = true := by
  cases h with
  | non => rfl
  | int i => rfl
  | str x t => unfold okD; exact t.of_ok
def atEq (v w : D) : Bool := PyData.eqv (toP v) (toP w)
theorem at_self (v : D) : atEq v v = true := eqv_self v
abbrev wANY : List Nat := [97, 110, 121]
abbrev wNOT : List Nat := [110, 111, 116]
abbrev wAND : List Nat := [97, 110, 100]
abbrev wOR : List Nat := [111, 114]
abbrev KS : List (List Nat) := [[107, 105, 110, 100], [108, 101, 118, 101, 108], [97, 99, 99, 101, 115, 115], [111, 116, 104, 101, 114], [97, 114, 114, 97, 121], [119, 111, 114, 100]]
inductive Form where
  | any | nt (f : Form) | an (f g : Form) | or (f g : Form) | atm (k : Nat) (v : D)
def fd : Form → D
  | .any => .tup [.str wANY]
  | .nt f => .tup [.str wNOT, fd f]
  | .an f g => .tup [.str wAND, fd f, fd g]
  | .or f g => .tup [.str wOR, fd f, fd g]
  | .atm k v => .tup [.str (KS.getD k []), v]
def dp : Form → Nat
  | .any => 0
  | .nt f => dp f + 1
  | .an f g => max (dp f) (dp g) + 1
  | .or f g => max (dp f) (dp g) + 1
  | .atm _ _ => 0
/-- fields, values, their words -/
def ATS : List (Nat × D × List Nat) := ([[104, 105, 116], [109, 105, 115, 115], [99, 114, 111, 119, 100, 101, 100], [98, 97, 99, 107], [116, 104, 114, 111, 119, 110]].map fun w => (0, .str w, w)) ++ ([1, 2, 3].flatMap fun k => [0, 1, 2, 3, 4].map fun (i : Nat) => (k, .int (i : Int), [48 + i])) ++ ([[97], [98]].map fun w => (4, .str w, w)) ++ ([[114, 101, 97, 100], [119, 114, 105, 116, 101]].map fun w => (5, .str w, w))
def FOk : Form → Prop
  | .any => True
  | .nt f => FOk f
  | .an f g => FOk f ∧ FOk g
  | .or f g => FOk f ∧ FOk g
  | .atm k v => k < 6 ∧ At v ∧ ∃ w, (k, v, w) ∈ ATS
section
variable {S : Store} {call : Nat → FN}
theorem oEq_str {a b : List Nat} (h1 : Txt a) (h2 : Txt b) : oEq call (.str a) (.str b) S = .ok (.bl (a == b)) S := by
  unfold oEq opOr orB
  rw [eqF_str h1 h2]
theorem oEq_int {a b : Int} : oEq call (.int a) (.int b) S = .ok (.bl (a == b)) S := by
  unfold oEq opOr orB
  rw [eqF_int]
end
section
variable {S : Store} {n : Nat} {r : List D} {f g : Form} {v : D} {k : Nat} {call : Nat → FN}
theorem i0 {a : D} {l : List D} : itemF (.tup (a :: l)) (.int 0) S = .ok a S := itemF_seq (xs := a :: l) rfl (atI_nat (k := 0) rfl)
theorem i1 {a b : D} {l : List D} : itemF (.tup (a :: b :: l)) (.int 1) S = .ok b S := itemF_seq (xs := a :: b :: l) rfl (atI_nat (k := 1) rfl)
theorem i2 {a b c : D} {l : List D} : itemF (.tup (a :: b :: c :: l)) (.int 2) S = .ok c S := itemF_seq (xs := a :: b :: c :: l) rfl (atI_nat (k := 2) rfl)
theorem t_eq {w x : List Nat} {l : List D} {σ : En} (h1 : Txt w) (h2 : Txt x) : tOf (eBin (oEq call) (eBin itemF (eVar 0) (eC (.int 0))) (eC (.str x))) (some (.tup (.str w :: l)) :: σ) S = .ok (w == x) S := by
  simp only [tOf_ev, eBin_ev, eVar_0, eC_ev, bind_ok', i0, oEq_str h1 h2]
theorem seq_no' {T : MT} {A R : MS} {σ : En} (h : T σ S = .ok false S) : sSeq (sIf T A sNext) R σ S = R σ S := by
  simp only [sSeq_ev, sIf_ev, h]
  rfl
theorem seq_yes {T : MT} {A R : MS} {σ : En} {d : D} {S2 : Store} (h : T σ S = .ok true S) (k : A σ S = .rt d S2) : sSeq (sIf T A sNext) R σ S = .rt d S2 := by
  simp only [sSeq_ev, sIf_ev, h]
  simp only [if_true, k]
abbrev tAny : Txt wANY := Txt.all rfl
abbrev tNot' : Txt wNOT := Txt.all rfl
abbrev tAnd' : Txt wAND := Txt.all rfl
abbrev tOr' : Txt wOR := Txt.all rfl
def CondAt (S : Store) : Nat → Form → Prop
  | c, .any => S.get c = some (.ins 0 [(0, .tup [.str wANY])])
  | c, .nt f => ∃ a, S.get c = some (.ins 0 [(0, .tup [.str wNOT, .ref a])]) ∧ CondAt S a f
  | c, .an f g => ∃ a b, S.get c = some (.ins 0 [(0, .tup [.str wAND, .ref a, .ref b])]) ∧ CondAt S a f ∧ CondAt S b g
  | c, .or f g => ∃ a b, S.get c = some (.ins 0 [(0, .tup [.str wOR, .ref a, .ref b])]) ∧ CondAt S a f ∧ CondAt S b g
  | c, .atm k v => S.get c = some (.ins 0 [(0, .tup [.str (KS.getD k []), v])])
/-- instances stay -/
def Ki (S S2 : Store) : Prop := ∀ i c fs, S.get i = some (.ins c fs) → S2.get i = some (.ins c fs)
theorem Ki.of {S S2 : Store} (e : Ext S S2) : Ki S S2 := fun i c fs h => e i _ h
theorem Ki.trans {S S2 S3 : Store} (a : Ki S S2) (b : Ki S2 S3) : Ki S S3 := fun i c fs h => b i c fs (a i c fs h)
theorem CondAt.ki {S S2 : Store} (e : Ki S S2) : ∀ {c : Nat} {F : Form}, CondAt S c F → CondAt S2 c F
  | c, .any, h => e _ _ _ h
  | c, .nt f, ⟨a, h, k⟩ => ⟨a, e _ _ _ h, k.ki e⟩
  | c, .an f g, ⟨a, b, h, k, l⟩ => ⟨a, b, e _ _ _ h, k.ki e, l.ki e⟩
  | c, .or f g, ⟨a, b, h, k, l⟩ => ⟨a, b, e _ _ _ h, k.ki e, l.ki e⟩
  | c, .atm k v, h => e _ _ _ h
theorem CondAt.ext {S S2 : Store} (e : Ext S S2) {c : Nat} {F : Form} (h : CondAt S c F) : CondAt S2 c F := h.ki (Ki.of e)
theorem CondAt.ins {c : Nat} {F : Form} (h : CondAt S c F) : ∃ d, S.get c = some (.ins 0 [(0, d)]) := by
  cases F with
  | any => exact ⟨_, h⟩
  | nt f => obtain ⟨a, h, _⟩ := h; exact ⟨_, h⟩
  | an f g => obtain ⟨a, b, h, _⟩ := h; exact ⟨_, h⟩
  | or f g => obtain ⟨a, b, h, _⟩ := h; exact ⟨_, h⟩
  | atm k v => exact ⟨_, h⟩
theorem form_at {c : Nat} {d : D} (h : S.get c = some (.ins 0 [(0, d)])) : attrF (at_form call) 0 (.ref c) S = .ok d S := by
  unfold attrF
  simp [h, at_form]
/-- Condition(form) -/
theorem make_ok {d : D} : makeW 0 (run (n + 1) 7) [d] S = .ok (.ref S.size) (S.push (.ins 0 [(0, d)])) := by
  unfold makeW
  rw [run_7]
  unfold m_7 sFld
  have hg : (S.push (.ins 0 [])).get S.size = some (.ins 0 []) := Store.get_push_same
  simp only [eVar_s, eVar_0, bind_ok', fldSet, hg]
  rw [if_pos (by rfl)]
  simp only [fin_nx, bind_ok', Store.push_set]
  rfl
end
end L2.Mi.Pg

set_option Elab.async false
set_option linter.all false
set_option maxRecDepth 100000
set_option maxHeartbeats 1000000
namespace L2.Mi.Pg
open PySem
section
variable {S : Store} {n : Nat} {r : List D} {v : D} {call : Nat → FN}
theorem and_ok {a b : Nat} {d d2 : D} (ha : S.get a = some (.ins 0 [(0, d)])) (hb : S.get b = some (.ins 0 [(0, d2)])) : oBitAnd (run (n + 2)) (.ref a) (.ref b) S = .ok (.ref S.size) (S.push (.ins 0 [(0, .tup [.str wAND, .ref a, .ref b])])) := by
  unfold oBitAnd ownB
  simp only [ha, hb, dBitAnd, if_true]
  rw [run_10]
  unfold m_10
  simp only [sRet_ev, eFn_ev, eTup_ev, aList_cons, aList_nil, eC_ev, eVar_0, eVar_s, bind_ok', make_ok, fin_rt]
theorem or_ok {a b : Nat} {d d2 : D} (ha : S.get a = some (.ins 0 [(0, d)])) (hb : S.get b = some (.ins 0 [(0, d2)])) : oBitOr (run (n + 2)) (.ref a) (.ref b) S = .ok (.ref S.size) (S.push (.ins 0 [(0, .tup [.str wOR, .ref a, .ref b])])) := by
  unfold oBitOr ownB
  simp only [ha, hb, dBitOr, if_true]
  rw [run_11]
  unfold m_11
  simp only [sRet_ev, eFn_ev, eTup_ev, aList_cons, aList_nil, eC_ev, eVar_0, eVar_s, bind_ok', make_ok, fin_rt]
theorem inv_ok {a : Nat} {d : D} (ha : S.get a = some (.ins 0 [(0, d)])) : oInv (run (n + 2)) (.ref a) S = .ok (.ref S.size) (S.push (.ins 0 [(0, .tup [.str wNOT, .ref a])])) := by
  unfold oInv invF
  simp only [ha, dInv]
  rw [run_12]
  unfold m_12
  simp only [sRet_ev, eFn_ev, eTup_ev, aList_cons, aList_nil, eC_ev, eVar_0, eVar_s, bind_ok', make_ok, fin_rt]
end
end L2.Mi.Pg

set_option Elab.async false
set_option linter.all false
set_option maxRecDepth 100000
set_option maxHeartbeats 1000000
namespace L2.Mi.Pg
open PySem
def jnF : Option Form → Form → Form
  | none, f => f
  | some g, f => .an g f
/-- what where gives, or the word that it refuses -/
def wh : Option Form → List (List Nat × D) → Form ⊕ List Nat
  | acc, [] => .inl (acc.getD .any)
  | acc, (w, v) :: r => match KS.findIdx? (fun x => x == w) with
    | some k => wh (some (jnF acc (.atm k v))) r
    | none => .inr w
def AccOk (S : Store) : Option Form → D → Prop
  | none, d => d = .non
  | some F, d => ∃ c, d = .ref c ∧ CondAt S c F
def kvD (kvs : List (List Nat × D)) : List (D × D) := kvs.map fun p => (.str p.1, p.2)
theorem eqKD_str {a b : List Nat} : eqKD (.str a) (.str b) = (a == b) := rfl
theorem valD_kv : ∀ {kvs : List (List Nat × D)} {p : List Nat × D}, (kvs.map (·.1)).Nodup → p ∈ kvs → valD (kvD kvs) (.str p.1) = some p.2
  | [], _, _, h => absurd h List.not_mem_nil
  | q :: kvs, p, hn, h => by
    obtain ⟨h1, h2⟩ := List.nodup_cons.mp (show (q.1 :: kvs.map (·.1)).Nodup from hn)
    unfold valD kvD
    rw [List.map_cons, List.find?_cons, eqKD_str]
    by_cases e : q.1 = p.1
    · have : (q.1 == p.1) = true := by simpa using e
      rw [this]
      rcases List.mem_cons.mp h with z | z
      · rw [z]; rfl
      · exact absurd (List.mem_map_of_mem (f := (·.1)) z) (by rw [e] at h1; exact h1)
    · have : (q.1 == p.1) = false := by simpa using e
      rw [this]
      rcases List.mem_cons.mp h with z | z
      · exact absurd (by rw [z]) e
      · exact valD_kv h2 z
theorem lockX_sat {i q : Nat} {m : MS} {kv : List (D × D)} {σ : En} {S : Store} {w : Wt} (h1 : σ[i]? = some (some (.ref q))) (h2 : S.get q = some (.dic false kv))
    (h : (m σ (S.set q (.lck (.dic false kv)))).sat ⟨fun σ1 S1 => w.n σ1 (S1.set q (.dic false kv)), fun d S1 => w.r d (S1.set q (.dic false kv)), w.e, fun _ _ => False, fun _ _ => False⟩) : (sLockX i m σ S).sat w := by
  unfold sLockX
  simp only [h1, h2]
  cases e : m σ (S.set q (.lck (.dic false kv))) with
  | nx σ1 S1 => rw [e] at h; exact h
  | rt d S1 => rw [e] at h; exact h
  | exc x σ1 S1 => rw [e] at h; exact h
  | bk σ1 S1 => rw [e] at h; exact h.elim
  | ct σ1 S1 => rw [e] at h; exact h.elim
  | bad => rw [e] at h; exact h.elim
theorem ext_set {S S1 : Store} {q : Nat} {o : Ob} (e : Ext S S1) (h : S.size ≤ q) : Ext S (S1.set q o) := fun i u hu => by
  have := Store.get_lt hu
  rw [Store.get_set_ne (by omega)]
  exact e i u hu
theorem ki_set {S : Store} {q : Nat} {o o2 : Ob} (h : S.get q = some (.lck o)) : Ki S (S.set q o2) := fun i c fs hi => by
  by_cases e : q = i
  · subst e
    rw [h] at hi
    cases hi
  · rw [Store.get_set_ne e]
    exact hi
section
variable {S : Store} {n q k : Nat} {v : D} {w : List Nat} {kv : List (D × D)}
def wBody (call : Nat → FN) : MS := sSeq (sIf (tOf (eBin (inF true) (eVar 2) (eC (.kt [(.str [107, 105, 110, 100]), (.str [108, 101, 118, 101, 108]), (.str [97, 99, 99, 101, 115, 115]), (.str [111, 116, 104, 101, 114]), (.str [97, 114, 114, 97, 121]), (.str [119, 111, 114, 100])])))) (sRaise 2 1 (eVar 2)) (sNext))
    (sSeq (sSet 3 (eFn (makeW 0 (call 7)) (aList [eTup [eVar 2, eBin dgetL (eVar 0) (eVar 2)]])))
    (sSet 1 (eIf (tOf (eBin (isF false) (eVar 1) (eC .non))) (eVar 3) (eBin (oBitAnd call) (eVar 1) (eVar 3)))))
theorem m8 {call : Nat → FN} : m_14 call = sSeq (sSet 1 (eC .non)) (sSeq (sLockX 0 (sFor (iKy (eVar 0)) (gName 2) (wBody call) 100000)) (sRet (eIf (tOf (eBin (isF false) (eVar 1) (eC .non))) (eFn (makeW 0 (call 7)) (aList [eTup [eC (.str wANY)]])) (eVar 1)))) := (rfl)
theorem in_ks {d : D} (hd : d = .kt (KS.map D.str)) : inF true (.str w) d S = .ok (.bl !(KS.any (· == w))) S := by
  subst hd
  rw [inF_strs (ks := KS) rfl]
  rfl
theorem any_idx {w : List Nat} : KS.any (· == w) = (KS.findIdx? (fun x => x == w)).isSome := by
  cases e : KS.findIdx? (fun x => x == w) with
  | none =>
    rw [List.findIdx?_eq_none_iff] at e
    rw [List.any_eq_false.mpr fun x hx => by simpa using e x hx]
    rfl
  | some k =>
    obtain ⟨h1, h2, _⟩ := List.findIdx?_eq_some_iff_getElem.mp e
    rw [List.any_eq_true.mpr ⟨KS[k], List.getElem_mem h1, h2⟩]
    rfl
theorem idx_get {w : List Nat} {k : Nat} (e : KS.findIdx? (fun x => x == w) = some k) : k < 6 ∧ KS.getD k [] = w := by
  obtain ⟨h1, h2, _⟩ := List.findIdx?_eq_some_iff_getElem.mp e
  refine ⟨h1, ?_⟩
  rw [List.getD_eq_getElem?_getD, List.getElem?_eq_getElem h1]
  exact eq_of_beq h2
theorem isN_non : isF false .non .non S = .ok (.bl true) S := rfl
theorem isN_ref {c : Nat} : isF false (.ref c) .non S = .ok (.bl false) S := rfl
/-- one word -/
theorem turn_ok {acc : Option Form} {d : D} {o3 : Option D} (ha : AccOk S acc d) (hl : S.get q = some (.lck (.dic false kv))) (hv : valD kv (.str w) = some v) {W : Wt}
    (h1 : ∀ k, KS.findIdx? (fun x => x == w) = some k → ∀ c S2 o, Ext S S2 → CondAt S2 c (jnF acc (.atm k v)) → W.n [some (.ref q), some (.ref c), some (.str w), o] S2)
    (h2 : KS.findIdx? (fun x => x == w) = none → W.e ⟨2, [(1, .str w)]⟩ S) : (wBody (run (n + 2)) [some (.ref q), some d, some (.str w), o3] S).sat W := by
  unfold wBody
  have e0 : tOf (eBin (inF true) (eVar 2) (eC (.kt [(.str [107, 105, 110, 100]), (.str [108, 101, 118, 101, 108]), (.str [97, 99, 99, 101, 115, 115]), (.str [111, 116, 104, 101, 114]), (.str [97, 114, 114, 97, 121]), (.str [119, 111, 114, 100])]))) [some (.ref q), some d, some (.str w), o3] S = .ok (!(KS.any (· == w))) S := by
    have hin : inF true (.str w) (.kt [(.str [107, 105, 110, 100]), (.str [108, 101, 118, 101, 108]), (.str [97, 99, 99, 101, 115, 115]), (.str [111, 116, 104, 101, 114]), (.str [97, 114, 114, 97, 121]), (.str [119, 111, 114, 100])]) S = .ok (.bl !(KS.any (· == w))) S := in_ks rfl
    simp only [tOf_ev, eBin_ev, eVar_s, eVar_0, eC_ev, bind_ok', hin]
  rw [sat_seq, sat_if, e0, any_idx]
  cases ei : KS.findIdx? (fun x => x == w) with
  | none =>
    simp only [Option.isSome_none, Bool.not_false, sat_ok, if_true, sat_raise, eVar_s, eVar_0]
    exact h2 ei
  | some k =>
    obtain ⟨hk, hw⟩ := idx_get ei
    have ed : dgetL (.ref q) (.str w) S = .ok v S := by
      unfold dgetL dicL
      simp only [hl, keyD, hv]
    simp only [Option.isSome_some, Bool.not_true, sat_ok, Bool.false_eq_true, if_false, sat_next, sat_seq, sat_set, eFn_ev, aList_cons, aList_nil, eTup_ev, eVar_s, eVar_0, eBin_ev, bind_ok', ed, make_ok (n := n + 1), List.set_cons_succ, List.set_cons_zero]
    have hc : CondAt (S.push (.ins 0 [(0, .tup [.str w, v])])) S.size (.atm k v) := by
      unfold CondAt
      rw [hw]
      exact Store.get_push_same
    have ex : Ext S (S.push (.ins 0 [(0, .tup [.str w, v])])) := Ext.push
    cases acc with
    | none =>
      obtain rfl : d = .non := ha
      simp only [eIf_ev, tOf_ev, eBin_ev, eVar_s, eVar_0, eC_ev, bind_ok', isN_non, if_true, sat_ok]
      exact h1 k ei _ _ _ ex hc
    | some F =>
      obtain ⟨c, rfl, hF⟩ := ha
      have hF2 := hF.ext ex
      obtain ⟨d1, g1⟩ := hF2.ins
      obtain ⟨d2, g2⟩ := hc.ins
      simp only [eIf_ev, tOf_ev, eBin_ev, eVar_s, eVar_0, eC_ev, bind_ok', isN_ref, Bool.false_eq_true, if_false, and_ok g1 g2, sat_ok]
      refine h1 k ei _ _ _ (ex.trans Ext.push) ⟨c, S.size, Store.get_push_same, hF2.ext Ext.push, hc.ext Ext.push⟩
/-- where(..) -/
theorem where_ok (kvs : List (List Nat × D)) (hn : (kvs.map (·.1)).Nodup) (hl : kvs.length < 100000) :
    (kwF (kvs.map (·.1)) (run (n + 3) 36) (kvs.map (·.2)) S).sat (fun v S2 => Ext S S2 ∧ ∃ F c, wh none kvs = .inl F ∧ v = .ref c ∧ CondAt S2 c F) (fun x S2 => Ext S S2 ∧ ∃ w, wh none kvs = .inr w ∧ x = ⟨2, [(1, .str w)]⟩) := by
  unfold kwF
  rw [if_pos (by simp)]
  have ez : ((kvs.map (·.1)).map D.str).zip (kvs.map (·.2)) = kvD kvs := by
    unfold kvD
    rw [List.map_map, List.zip_map']
    rfl
  rw [ez, run_14]
  refine sat_fin ?_
  rw [m8]
  simp only [sat_seq, sat_set, eC_ev, sat_ok, List.set_cons_succ, List.set_cons_zero]
  have hq : (S.push (.dic false (kvD kvs))).get S.size = some (.dic false (kvD kvs)) := Store.get_push_same
  have hs : S.size < (S.push (.dic false (kvD kvs))).size := by rw [Store.size_push]; omega
  refine lockX_sat rfl hq ?_
  have hq2 : ((S.push (.dic false (kvD kvs))).set S.size (.lck (.dic false (kvD kvs)))).get S.size = some (.lck (.dic false (kvD kvs))) := Store.get_set_same hs
  have hk : (kvD kvs).map (·.1) = kvs.map fun p => D.str p.1 := by unfold kvD; rw [List.map_map]; rfl
  refine for_sat (ds := kvs.map fun p => D.str p.1) (fun ds σ S2 => ∃ rest acc d o2 o3, ds = rest.map (fun p => D.str p.1) ∧ wh none kvs = wh acc rest ∧ (∀ p ∈ rest, p ∈ kvs) ∧ σ = [some (.ref S.size), some d, o2, o3] ∧ AccOk S2 acc d ∧ S2.get S.size = some (.lck (.dic false (kvD kvs))) ∧ Ext S S2)
    (hk ▸ walk_ky (m := eVar 0) (n := S.size) rfl hq2) (by rw [List.length_map]; exact hl) ⟨kvs, none, .non, none, none, rfl, rfl, fun p h => h, rfl, rfl, hq2, ext_set Ext.push (Nat.le_refl _)⟩ ?_ ?_
  · rintro d ds σ S2 ⟨rest, acc, da, o2, o3, hds, hw, hm, rfl, hacc, hlk, hext⟩
    cases rest with
    | nil => cases hds
    | cons p rest =>
      rw [List.map_cons] at hds
      obtain ⟨rfl, rfl⟩ := List.cons.inj hds
      simp only [gName_ev, sat_ok, List.set_cons_succ, List.set_cons_zero]
      refine turn_ok (v := p.2) hacc hlk (valD_kv hn (hm p (by simp))) (fun k ek c S3 o ex hc => ?_) fun ek => ?_
      · refine ⟨rest, some (jnF acc (.atm k p.2)), .ref c, _, _, rfl, ?_, fun p' h' => hm p' (by simp [h']), rfl, ⟨c, rfl, hc⟩, ex _ _ hlk, hext.trans ex⟩
        rw [hw]
        obtain ⟨p1, p2⟩ := p
        show wh acc ((p1, p2) :: rest) = _
        conv => lhs; unfold wh
        rw [show KS.findIdx? (fun x => x == p1) = some k from ek]
      · refine ⟨hext, p.1, ?_, rfl⟩
        rw [hw]
        obtain ⟨p1, p2⟩ := p
        show wh acc ((p1, p2) :: rest) = _
        conv => lhs; unfold wh
        rw [show KS.findIdx? (fun x => x == p1) = none from ek]
  · rintro σ S2 ⟨rest, acc, d, o2, o3, hds, hw, hm, rfl, hacc, hlk, hext⟩
    have hr : rest = [] := by
      cases rest with
      | nil => rfl
      | cons _ _ => cases hds
    subst hr
    have hext2 : Ext S (S2.set S.size (.dic false (kvD kvs))) := ext_set hext (Nat.le_refl _)
    have ki : Ki S2 (S2.set S.size (.dic false (kvD kvs))) := ki_set hlk
    dsimp only
    cases acc with
    | none =>
      obtain rfl : d = .non := hacc
      simp only [sat_ret, eIf_ev, tOf_ev, eBin_ev, eVar_s, eVar_0, eC_ev, bind_ok', isN_non, if_true, eFn_ev, aList_cons, aList_nil, eTup_ev, make_ok (n := n + 1), sat_ok]
      exact ⟨hext2.trans Ext.push, .any, _, hw, rfl, Store.get_push_same⟩
    | some F =>
      obtain ⟨c, rfl, hF⟩ := hacc
      simp only [sat_ret, eIf_ev, tOf_ev, eBin_ev, eVar_s, eVar_0, eC_ev, bind_ok', isN_ref, Bool.false_eq_true, if_false, sat_ok]
      exact ⟨hext2, F, c, hw, rfl, hF.ki ki⟩
end
end L2.Mi.Pg

set_option Elab.async false
set_option linter.all false
set_option maxRecDepth 100000
set_option maxHeartbeats 1000000
namespace L2.Mi.Pg
open PySem
/-- what a made condition is -/
abbrev MadeQ (S : Store) (F : Form) : D → Store → Prop := fun d S2 => Ext S S2 ∧ ∃ c, d = .ref c ∧ CondAt S2 c F
section
variable {S : Store} {n k : Nat} {v : D} {E : Xn → Store → Prop} {r : List D}
theorem where_is (kvs : List (List Nat × D)) (hn : (kvs.map (·.1)).Nodup) (hl : kvs.length < 100000) {F : Form} (h : wh none kvs = .inl F) : (kwF (kvs.map (·.1)) (run (n + 3) 36) (kvs.map (·.2)) S).sat (MadeQ S F) E := by
  refine (where_ok (n := n) kvs hn hl).imp (fun d S2 ⟨e, F2, c, h1, h2, h3⟩ => ?_) fun x S2 ⟨_, w, h1, _⟩ => ?_
  · rw [h] at h1
    cases h1
    exact ⟨e, c, h2, h3⟩
  · rw [h] at h1
    cases h1
theorem sat_seq_no {T : MT} {A R : MS} {σ : En} {w : Wt} (h : T σ S = .ok false S) (k : (R σ S).sat w) : (sSeq (sIf T A sNext) R σ S).sat w := by
  rw [seq_no' h]
  exact k
theorem sat_seq_yes {T : MT} {m : ME} {R : MS} {σ : En} {w : Wt} (h : T σ S = .ok true S) (k : (m σ S).sat w.r w.e) : (sSeq (sIf T (sRet m) sNext) R σ S).sat w := by
  rw [sat_seq, sat_if, h]
  simp only [sat_ok, if_true, sat_ret]
  exact k
theorem a_eq {call : Nat → FN} {w x : List Nat} {σ : En} (h1 : Txt w) (h2 : Txt x) : tOf (eBin (oEq call) (eVar 0) (eC (.str x))) (some (.str w) :: σ) S = .ok (w == x) S := by
  simp only [tOf_ev, eBin_ev, eVar_0, eC_ev, bind_ok', oEq_str h1 h2]
theorem kw1 {call : Nat → FN} {w w2 : List Nat} {σ : D} {Q : D → Store → Prop} (h : (kwF [w] (call 36) [v] S).sat Q E) : (eKw [w] (call 36) [eVar 1] [some σ, some v] S).sat Q E := by
  unfold eKw
  simp only [eFn_ev, aList_cons, aList_nil, eVar_s, eVar_0, bind_ok']
  exact h
theorem atom_ok (hk : k < 6) : (run (n + 4) 31 [.str (KS.getD k []), v] S).sat (MadeQ S (.atm k v)) E := by
  rw [run_31]
  refine sat_fin ?_
  unfold m_31
  have t0 : Txt [107, 105, 110, 100] := Txt.all rfl
  have t1 : Txt [108, 101, 118, 101, 108] := Txt.all rfl
  have t2 : Txt [97, 99, 99, 101, 115, 115] := Txt.all rfl
  have t3 : Txt [111, 116, 104, 101, 114] := Txt.all rfl
  have t4 : Txt [97, 114, 114, 97, 121] := Txt.all rfl
  have t5 : Txt [119, 111, 114, 100] := Txt.all rfl
  have one : ∀ (w : List Nat) (F : Form), wh none [(w, v)] = .inl F → (kwF [w] (run (n + 3) 36) [v] S).sat (MadeQ S F) E := fun w F h => where_is (n := n) [(w, v)] (by simp) (by simp) h
  match k, hk with
  | 0, _ => exact sat_seq_yes (a_eq t0 t0) (kw1 (w2 := []) (one _ _ rfl))
  | 1, _ => exact sat_seq_no (a_eq t1 t0) (sat_seq_yes (a_eq t1 t1) (kw1 (w2 := []) (one _ _ rfl)))
  | 2, _ => exact sat_seq_no (a_eq t2 t0) (sat_seq_no (a_eq t2 t1) (sat_seq_yes (a_eq t2 t2) (kw1 (w2 := []) (one _ _ rfl))))
  | 3, _ => exact sat_seq_no (a_eq t3 t0) (sat_seq_no (a_eq t3 t1) (sat_seq_no (a_eq t3 t2) (sat_seq_yes (a_eq t3 t3) (kw1 (w2 := []) (one _ _ rfl)))))
  | 4, _ =>
    refine sat_seq_no (a_eq t4 t0) (sat_seq_no (a_eq t4 t1) (sat_seq_no (a_eq t4 t2) (sat_seq_no (a_eq t4 t3) ?_)))
    rw [sat_ret]
    have e4 : tOf (eBin (oEq (run (n + 3))) (eVar 0) (eC (.str [97, 114, 114, 97, 121]))) [some (.str (KS.getD 4 [])), some v] S = .ok true S := a_eq t4 t4
    simp only [eIf_ev, e4, bind_ok', if_true]
    exact kw1 (w2 := []) (one _ _ rfl)
  | 5, _ =>
    refine sat_seq_no (a_eq t5 t0) (sat_seq_no (a_eq t5 t1) (sat_seq_no (a_eq t5 t2) (sat_seq_no (a_eq t5 t3) ?_)))
    rw [sat_ret]
    have e5 : tOf (eBin (oEq (run (n + 3))) (eVar 0) (eC (.str [97, 114, 114, 97, 121]))) [some (.str (KS.getD 5 [])), some v] S = .ok false S := a_eq t5 t4
    simp only [eIf_ev, e5, bind_ok', Bool.false_eq_true, if_false]
    exact kw1 (w2 := []) (one _ _ rfl)
theorem in2 {call : Nat → FN} {w : List Nat} {l : List D} {σ : En} : tOf (eBin (inF false) (eBin itemF (eVar 0) (eC (.int 0))) (eLv [eC (.str wAND), eC (.str wOR)])) (some (.tup (.str w :: l)) :: σ) S = .ok ([wAND, wOR].any (· == w)) S := by
  have h : inF false (.str w) (.lv ([wAND, wOR].map D.str)) S = .ok (.bl ([wAND, wOR].any (· == w))) S := by
    rw [inF_strs (ks := [wAND, wOR]) rfl]
    rfl
  have h2 : inF false (.str w) (.lv [.str wAND, .str wOR]) S = .ok (.bl ([wAND, wOR].any (· == w))) S := h
  simp only [tOf_ev, eBin_ev, eVar_0, eC_ev, eLv_ev, aList_cons, aList_nil, bind_ok', i0, h2]
/-- _law_built -/
theorem built_ok : ∀ (F : Form) (m : Nat) (S : Store), FOk F → dp F + 5 ≤ m → (run (m + 1) 32 [fd F] S).sat (MadeQ S F) E
  | .any, m, S, _, hm => by
    obtain ⟨n, rfl⟩ : ∃ n, m = n + 3 := ⟨m - 3, by unfold dp at hm; omega⟩
    rw [run_32]
    refine sat_fin ?_
    unfold m_32 fd
    refine sat_seq_yes (t_eq tAny tAny) ?_
    simp only [eFn_ev, aList_nil, bind_ok']
    exact where_is (n := n) [] List.nodup_nil (by simp) rfl
  | .nt f, m, S, h1, hm => by
    obtain ⟨n, rfl⟩ : ∃ n, m = n + 2 := ⟨m - 2, by unfold dp at hm; omega⟩
    rw [run_32]
    refine sat_fin ?_
    unfold m_32 fd
    refine sat_seq_no (t_eq tNot' tAny) (sat_seq_yes (t_eq tNot' tNot') ?_)
    simp only [eUn_ev, eFn_ev, aList_cons, aList_nil, eBin_ev, eVar_0, eC_ev, bind_ok', i1, sat_bind]
    refine (built_ok f (n + 1) S h1 (by unfold dp at hm; omega)).imp (fun d S2 ⟨e, c, hd, hc⟩ => ?_) fun _ _ h => h
    subst hd
    obtain ⟨d1, g1⟩ := hc.ins
    rw [inv_ok g1]
    exact ⟨e.trans Ext.push, _, rfl, c, Store.get_push_same, hc.ext Ext.push⟩
  | .an f g, m, S, h1, hm => by
    obtain ⟨n, rfl⟩ : ∃ n, m = n + 2 := ⟨m - 2, by unfold dp at hm; omega⟩
    rw [run_32]
    refine sat_fin ?_
    unfold m_32 fd
    refine sat_seq_no (t_eq tAnd' tAny) (sat_seq_no (t_eq tAnd' tNot') ?_)
    rw [sat_seq, sat_if, in2 (call := run (n + 2))]
    have hy : ([wAND, wOR].any (· == wAND)) = true := rfl
    simp only [hy, sat_ok, if_true, sat_seq, sat_par, eFn_ev, aList_cons, aList_nil, eBin_ev, eVar_0, eC_ev, bind_ok', i1, i2]
    refine (built_ok f (n + 1) S h1.1 (by unfold dp at hm; omega)).imp (fun d S2 ⟨e, c, hd, hc⟩ => ?_) fun _ _ h => h
    subst hd
    refine (built_ok g (n + 1) S2 h1.2 (by unfold dp at hm; omega)).imp (fun d S3 ⟨e2, c2, hd, hc2⟩ => ?_) fun _ _ h => h
    subst hd
    have hc' := hc.ext e2
    obtain ⟨d1, g1⟩ := hc'.ins
    obtain ⟨d2, g2⟩ := hc2.ins
    have ht : tOf (eBin (oEq (run (n + 2))) (eBin itemF (eVar 0) (eC (.int 0))) (eC (.str [97, 110, 100]))) [some (.tup [.str wAND, fd f, fd g]), some (.ref c), some (.ref c2)] S3 = .ok true S3 := t_eq tAnd' tAnd'
    simp only [List.set_cons_succ, List.set_cons_zero, sat_ret, eIf_ev, ht, bind_ok', if_true, eBin_ev, eVar_s, eVar_0, and_ok g1 g2, sat_ok]
    exact ⟨(e.trans e2).trans Ext.push, _, rfl, c, c2, Store.get_push_same, hc'.ext Ext.push, hc2.ext Ext.push⟩
  | .or f g, m, S, h1, hm => by
    obtain ⟨n, rfl⟩ : ∃ n, m = n + 2 := ⟨m - 2, by unfold dp at hm; omega⟩
    rw [run_32]
    refine sat_fin ?_
    unfold m_32 fd
    refine sat_seq_no (t_eq tOr' tAny) (sat_seq_no (t_eq tOr' tNot') ?_)
    rw [sat_seq, sat_if, in2 (call := run (n + 2))]
    have hy : ([wAND, wOR].any (· == wOR)) = true := rfl
    simp only [hy, sat_ok, if_true, sat_seq, sat_par, eFn_ev, aList_cons, aList_nil, eBin_ev, eVar_0, eC_ev, bind_ok', i1, i2]
    refine (built_ok f (n + 1) S h1.1 (by unfold dp at hm; omega)).imp (fun d S2 ⟨e, c, hd, hc⟩ => ?_) fun _ _ h => h
    subst hd
    refine (built_ok g (n + 1) S2 h1.2 (by unfold dp at hm; omega)).imp (fun d S3 ⟨e2, c2, hd, hc2⟩ => ?_) fun _ _ h => h
    subst hd
    have hc' := hc.ext e2
    obtain ⟨d1, g1⟩ := hc'.ins
    obtain ⟨d2, g2⟩ := hc2.ins
    have ht : tOf (eBin (oEq (run (n + 2))) (eBin itemF (eVar 0) (eC (.int 0))) (eC (.str [97, 110, 100]))) [some (.tup [.str wOR, fd f, fd g]), some (.ref c), some (.ref c2)] S3 = .ok false S3 := t_eq tOr' tAnd'
    simp only [List.set_cons_succ, List.set_cons_zero, sat_ret, eIf_ev, ht, bind_ok', Bool.false_eq_true, if_false, eBin_ev, eVar_s, eVar_0, or_ok g1 g2, sat_ok]
    exact ⟨(e.trans e2).trans Ext.push, _, rfl, c, c2, Store.get_push_same, hc'.ext Ext.push, hc2.ext Ext.push⟩
  | .atm k v, m, S, h1, hm => by
    obtain ⟨n, rfl⟩ : ∃ n, m = n + 4 := ⟨m - 4, by unfold dp at hm; omega⟩
    rw [run_32]
    refine sat_fin ?_
    unfold m_32 fd
    have tk : Txt (KS.getD k []) := by
      match k, h1.1 with
      | 0, _ => exact Txt.all rfl
      | 1, _ => exact Txt.all rfl
      | 2, _ => exact Txt.all rfl
      | 3, _ => exact Txt.all rfl
      | 4, _ => exact Txt.all rfl
      | 5, _ => exact Txt.all rfl
    have n1 : (KS.getD k [] == wANY) = false := by
      match k, h1.1 with
      | 0, _ => rfl
      | 1, _ => rfl
      | 2, _ => rfl
      | 3, _ => rfl
      | 4, _ => rfl
      | 5, _ => rfl
    have n2 : (KS.getD k [] == wNOT) = false := by
      match k, h1.1 with
      | 0, _ => rfl
      | 1, _ => rfl
      | 2, _ => rfl
      | 3, _ => rfl
      | 4, _ => rfl
      | 5, _ => rfl
    have n3 : ([wAND, wOR].any (· == KS.getD k [])) = false := by
      match k, h1.1 with
      | 0, _ => rfl
      | 1, _ => rfl
      | 2, _ => rfl
      | 3, _ => rfl
      | 4, _ => rfl
      | 5, _ => rfl
    refine sat_seq_no (n1 ▸ t_eq tk tAny) (sat_seq_no (n2 ▸ t_eq tk tNot') (sat_seq_no (n3 ▸ in2 (call := run (n + 4))) ?_))
    simp only [sat_ret, eFn_ev, aList_cons, aList_nil, eBin_ev, eVar_0, eC_ev, bind_ok', i0, i1]
    exact atom_ok h1.1
end
end L2.Mi.Pg

set_option Elab.async false
set_option linter.all false
set_option maxRecDepth 100000
set_option maxHeartbeats 1000000
namespace L2.Mi.Pg
open PySem
section
variable {S : Store} {i n : Nat} {w : Int} {E : Xn → Store → Prop}
theorem tk_ok (hp : Pool S i) (w0 : 0 < w) (w1 : w < 2 ^ 31) : ∃ r S', run (n + 1) 26 [.ref i, .int w] S = .ok (.int r) S' ∧ 0 ≤ r ∧ r < w ∧ Pool S' i ∧ Fr S S' i ∧ S'.size = S.size := by
  obtain ⟨r, o, e, h1, h2, h3⟩ := take_ok (oA := oAdd (run n)) (oM := oMul (run n)) opsI_or hp w0 w1
  exact ⟨r, _, by rw [run_26]; exact e, h1, h2, h3, Fr.set, Store.size_set _ _ _⟩
theorem tk (hp : Pool S i) (w0 : 0 < w) (w1 : w < 2 ^ 31) : (run (n + 1) 26 [.ref i, .int w] S).sat (fun v S' => ∃ r, v = .int r ∧ 0 ≤ r ∧ r < w ∧ Pool S' i ∧ Fr S S' i ∧ S'.size = S.size) E := by
  obtain ⟨r, S', e, h⟩ := tk_ok (n := n) hp w0 w1
  rw [e]
  exact ⟨r, rfl, h⟩
theorem pl {ns : List Int} {k : Nat} (hk : k < 1000) (hl : ns.length ≤ 1000) : (run (n + 1) 25 [.fl (ns.map D.int), .int (k : Int)] S).sat (fun v S' => v = .ref S.size ∧ Pool S' S.size ∧ Fr S S' S.size ∧ S'.size = S.size + 1) E := by
  obtain ⟨o, e, h⟩ := pool_ok (lx := lenF) (oA := oAdd (run n)) (oM := oMul (run n)) (S := S) (ns := ns) opsI_or (by rfl) hk hl
  rw [run_25]
  refine sat_eq e ⟨rfl, h, Fr.push, Store.size_push _ _⟩
/-- how many rounds a law goes -/
theorem rounds_ok {ns : List Int} {σ : En} {K : Int} (hK : 0 ≤ K) (hK2 : K ≤ 64) (hl : ns.length ≤ 1000) : ∃ m : Nat, eFn max2F (aList [eC (.int 1), eFn min2F (aList [eFn (lenF) (aList [eVar 0]), eC (.int K)])]) (some (.fl (ns.map D.int)) :: σ) S = .ok (.int (m : Int)) S ∧ m ≤ 64 := by
  have hlen : (lenF) [.fl (ns.map D.int)] S = .ok (.int (ns.length : Int)) S := by
    have z : lenF [.fl (ns.map D.int)] S = .ok (.int (ns.length : Int)) S := by rw [lenF_seq (xs := ns.map D.int) rfl, List.length_map]
    first | exact z | (unfold fnOr; rw [z]; rfl)
  refine ⟨(if (if K < (ns.length : Int) then K else (ns.length : Int)) > 1 then (if K < (ns.length : Int) then K else (ns.length : Int)) else 1).toNat, ?_, ?_⟩
  · simp only [eFn_ev, aList_cons, aList_nil, eC_ev, eVar_0, bind_ok', hlen, min2F, max2F_ev]
    congr 2
    split <;> split <;> omega
  · split <;> split <;> omega
end
end L2.Mi.Pg

set_option Elab.async false
set_option linter.all false
set_option maxRecDepth 100000
set_option maxHeartbeats 1000000
namespace L2.Mi.Pg
open PySem
section
variable {S : Store} {n i k : Nat} {v : D} {E : Xn → Store → Prop}
theorem oEq_self {call : Nat → FN} {d : D} (m : Nat) (h : okD m d = true) (hn : m ≤ 64 := by decide) : oEq call d d S = .ok (.bl true) S := by
  unfold oEq opOr orB
  rw [eqF_self m h hn]
theorem parts_ok {c : Nat} {d : D} {σ : En} (h : S.get c = some (.ins 0 [(0, d)])) : eMeth (me_parts (run (n + 1))) 16 (eVar 0) (aList []) (some (.ref c) :: σ) S = .ok d S := by
  unfold eMeth
  simp only [eVar_0, bind_ok', h, me_parts]
  have e : ([(0, d)] : List (Nat × D)).lookup 16 = none := rfl
  simp only [e, aList_nil, bind_ok']
  rw [run_8]
  unfold m_8
  simp only [sRet_ev, eUn_ev, eVar_0, bind_ok', form_at h, fin_rt]
theorem set_first {j : Nat} {m : ME} {R : MS} {σ : En} {d : D} {S2 : Store} (h : m σ S = .ok d S2) : sSeq (sSet j m) R σ S = R (σ.set j (some d)) S2 := by
  unfold sSeq sSet sAsg gName
  rw [h]
theorem l_an {call : Nat → FN} {c : Nat} {x y a b : D} (h1 : call 30 [a, x] S = .ok (.bl true) S) (h2 : call 30 [b, y] S = .ok (.bl true) S) (hp : eMeth (me_parts call) 16 (eVar 0) (aList []) [some (.ref c), some (.tup [.str wAND, x, y]), none] S = .ok (.tup [.str wAND, a, b]) S) :
    m_30 call [some (.ref c), some (.tup [.str wAND, x, y]), none] S = .rt (.bl true) S := by
  unfold m_30
  rw [set_first hp]
  simp only [List.set_cons_succ, List.set_cons_zero]
  rw [seq_no' (show _ = Res.ok false S by kernel_rfl), seq_no' (show _ = Res.ok false S by kernel_rfl)]
  refine seq_yes (show _ = Res.ok true S by kernel_rfl) ?_
  simp only [sRet_ev, eAnd_ev, tOf_ev, eFn_ev, aList_cons, aList_nil, eBin_ev, eVar_s, eVar_0, eC_ev, bind_ok', i1, i2, h1, h2, if_true]
theorem l_atm {call : Nat → FN} {c : Nat} (hk : k < 6) (hv : At v) (hp : eMeth (me_parts call) 16 (eVar 0) (aList []) [some (.ref c), some (.tup [.str (KS.getD k []), v]), none] S = .ok (.tup [.str (KS.getD k []), v]) S) :
    m_30 call [some (.ref c), some (.tup [.str (KS.getD k []), v]), none] S = .rt (.bl true) S := by
  unfold m_30
  rw [set_first hp]
  simp only [List.set_cons_succ, List.set_cons_zero]
  have ok : okD 1 (.tup [.str (KS.getD k []), v]) = true := by
    have h0 := hv.ok
    unfold okD okDs okDs okDs
    rw [h0]
    match k, hk with
    | 0, _ => rfl
    | 1, _ => rfl
    | 2, _ => rfl
    | 3, _ => rfl
    | 4, _ => rfl
    | 5, _ => rfl
  have fin : ∀ {σ : En}, sRet (eBin (oEq call) (eVar 2) (eVar 1)) [some (.ref c), some (.tup [.str (KS.getD k []), v]), some (.tup [.str (KS.getD k []), v])] S = .rt (.bl true) S := by
    simp only [sRet_ev, eBin_ev, eVar_s, eVar_0, bind_ok', oEq_self 1 ok]
    simp
  match k, hk with
  | 0, _ => rw [seq_no' (show _ = Res.ok false S by kernel_rfl), seq_no' (show _ = Res.ok false S by kernel_rfl), seq_no' (show _ = Res.ok false S by kernel_rfl)]; exact fin (σ := [])
  | 1, _ => rw [seq_no' (show _ = Res.ok false S by kernel_rfl), seq_no' (show _ = Res.ok false S by kernel_rfl), seq_no' (show _ = Res.ok false S by kernel_rfl)]; exact fin (σ := [])
  | 2, _ => rw [seq_no' (show _ = Res.ok false S by kernel_rfl), seq_no' (show _ = Res.ok false S by kernel_rfl), seq_no' (show _ = Res.ok false S by kernel_rfl)]; exact fin (σ := [])
  | 3, _ => rw [seq_no' (show _ = Res.ok false S by kernel_rfl), seq_no' (show _ = Res.ok false S by kernel_rfl), seq_no' (show _ = Res.ok false S by kernel_rfl)]; exact fin (σ := [])
  | 4, _ => rw [seq_no' (show _ = Res.ok false S by kernel_rfl), seq_no' (show _ = Res.ok false S by kernel_rfl), seq_no' (show _ = Res.ok false S by kernel_rfl)]; exact fin (σ := [])
  | 5, _ => rw [seq_no' (show _ = Res.ok false S by kernel_rfl), seq_no' (show _ = Res.ok false S by kernel_rfl), seq_no' (show _ = Res.ok false S by kernel_rfl)]; exact fin (σ := [])
theorem l_nt {call : Nat → FN} {c : Nat} {x a : D} (h1 : call 30 [a, x] S = .ok (.bl true) S) (hp : eMeth (me_parts call) 16 (eVar 0) (aList []) [some (.ref c), some (.tup [.str wNOT, x]), none] S = .ok (.tup [.str wNOT, a]) S) :
    m_30 call [some (.ref c), some (.tup [.str wNOT, x]), none] S = .rt (.bl true) S := by
  unfold m_30
  rw [set_first hp]
  simp only [List.set_cons_succ, List.set_cons_zero]
  rw [seq_no' (show _ = Res.ok false S by kernel_rfl)]
  refine seq_yes (show _ = Res.ok true S by kernel_rfl) ?_
  simp only [sRet_ev, eFn_ev, aList_cons, aList_nil, eBin_ev, eVar_s, eVar_0, eC_ev, bind_ok', i1, h1]
theorem l_or {call : Nat → FN} {c : Nat} {x y a b : D} (h1 : call 30 [a, x] S = .ok (.bl true) S) (h2 : call 30 [b, y] S = .ok (.bl true) S) (hp : eMeth (me_parts call) 16 (eVar 0) (aList []) [some (.ref c), some (.tup [.str wOR, x, y]), none] S = .ok (.tup [.str wOR, a, b]) S) :
    m_30 call [some (.ref c), some (.tup [.str wOR, x, y]), none] S = .rt (.bl true) S := by
  unfold m_30
  rw [set_first hp]
  simp only [List.set_cons_succ, List.set_cons_zero]
  rw [seq_no' (show _ = Res.ok false S by kernel_rfl), seq_no' (show _ = Res.ok false S by kernel_rfl)]
  refine seq_yes (show _ = Res.ok true S by kernel_rfl) ?_
  simp only [sRet_ev, eAnd_ev, tOf_ev, eFn_ev, aList_cons, aList_nil, eBin_ev, eVar_s, eVar_0, eC_ev, bind_ok', i1, i2, h1, h2, if_true]
theorem l_any {call : Nat → FN} {c : Nat} (hp : eMeth (me_parts call) 16 (eVar 0) (aList []) [some (.ref c), some (.tup [.str wANY]), none] S = .ok (.tup [.str wANY]) S) :
    m_30 call [some (.ref c), some (.tup [.str wANY]), none] S = .rt (.bl true) S := by
  unfold m_30
  rw [set_first hp]
  kernel_rfl
theorem like_ok : ∀ (F : Form) (n c : Nat), FOk F → dp F + 1 < n → CondAt S c F → run n 30 [.ref c, fd F] S = .ok (.bl true) S
  | F, 0, _, _, h, _ => absurd h (by omega)
  | F, 1, _, _, h, _ => absurd h (by omega)
  | .any, n + 2, c, h, _, hc => by
    rw [run_30]
    unfold fd
    rw [l_any (parts_ok (n := n) hc)]
    rfl
  | .nt f, n + 2, c, h, hm, ⟨a, hc, ka⟩ => by
    rw [run_30]
    unfold fd
    rw [l_nt (like_ok f (n + 1) a h (by unfold dp at hm; omega) ka) (parts_ok (n := n) hc)]
    rfl
  | .or f g, n + 2, c, h, hm, ⟨a, b, hc, ka, kb⟩ => by
    rw [run_30]
    unfold fd
    rw [l_or (like_ok f (n + 1) a h.1 (by unfold dp at hm; omega) ka) (like_ok g (n + 1) b h.2 (by unfold dp at hm; omega) kb) (parts_ok (n := n) hc)]
    rfl
  | .an f g, n + 2, c, h, hm, ⟨a, b, hc, ka, kb⟩ => by
    rw [run_30]
    unfold fd
    rw [l_an (like_ok f (n + 1) a h.1 (by unfold dp at hm; omega) ka) (like_ok g (n + 1) b h.2 (by unfold dp at hm; omega) kb) (parts_ok (n := n) hc)]
    rfl
  | .atm k v, n + 2, c, h, hm, hc => by
    rw [run_30]
    unfold fd
    rw [l_atm h.1 h.2.1 (parts_ok (n := n) hc)]
    rfl
abbrev DrQ (S : Store) (i : Nat) (P : D → Prop) : D → Store → Prop := fun d S2 => P d ∧ Pool S2 i ∧ Fr S S2 i
theorem draw_int {w : Int} (hp : Pool S i) (w0 : 0 < w) (w1 : w < 2 ^ 31) {Q : D → Store → Prop} (h : ∀ r S2, 0 ≤ r → r < w → Pool S2 i → Fr S S2 i → Q (.int r) S2) : (run (n + 1) 26 [.ref i, .int w] S).sat Q E :=
  (tk (n := n) hp w0 w1).imp (fun v S2 ⟨r, hv, r0, r1, hp2, f2, _⟩ => hv ▸ h r S2 r0 r1 hp2 f2) fun _ _ h => h
theorem pick_at {xs : List (List Nat)} {r m : Int} (hx : ∀ x ∈ xs, Txt x) (hm : (xs.length : Int) = m) (r0 : 0 ≤ r) (r1 : r < m) : ∃ x, x ∈ xs ∧ Txt x ∧ itemF (.lv (xs.map D.str)) (.int r) S = .ok (.str x) S := by
  obtain ⟨x, h1, h2⟩ := pick (S := S) (xs := xs.map D.str) (r := r) (m := m) (by rw [List.length_map]; exact hm) r0 r1
  obtain ⟨y, hy, rfl⟩ := List.mem_map.mp h1
  exact ⟨y, hy, hx y hy, h2⟩
abbrev sorts : List (List Nat) := [[104, 105, 116], [109, 105, 115, 115], [99, 114, 111, 119, 100, 101, 100], [98, 97, 99, 107], [116, 104, 114, 111, 119, 110]]
abbrev arrs : List (List Nat) := [[97], [98]]
abbrev rws : List (List Nat) := [[114, 101, 97, 100], [119, 114, 105, 116, 101]]
theorem t_sorts : ∀ x ∈ sorts, Txt x := fun x h => by
  simp only [List.mem_cons, List.not_mem_nil, or_false] at h
  rcases h with rfl | rfl | rfl | rfl | rfl <;> exact Txt.all rfl
theorem t_arrs : ∀ x ∈ arrs, Txt x := fun x h => by
  simp only [List.mem_cons, List.not_mem_nil, or_false] at h
  rcases h with rfl | rfl <;> exact Txt.all rfl
theorem t_rws : ∀ x ∈ rws, Txt x := fun x h => by
  simp only [List.mem_cons, List.not_mem_nil, or_false] at h
  rcases h with rfl | rfl <;> exact Txt.all rfl
end
end L2.Mi.Pg

set_option Elab.async false
set_option linter.all false
set_option maxRecDepth 100000
set_option maxHeartbeats 1000000
namespace L2.Mi.Pg
open PySem
section
variable {S : Store} {n i q : Nat} {E : Xn → Store → Prop}
abbrev FmQ (m : Nat) (d : D) : Prop := ∃ F, d = fd F ∧ FOk F ∧ dp F ≤ m
theorem ap_step {σ : En} {W : Wt} {w : List Nat} {m : ME} {ds : List D} (hs : σ[2]? = some (some (.ref q))) (hq : S.get q = some (.lst ds)) (hl : ds.length < 10)
    (h : (m σ S).sat (fun v S2 => S2.get q = some (.lst ds) ∧ W.n σ (S2.set q (.lst (ds ++ [.tup [.str w, v]])))) W.e) : (sDrop (eBm isLst appendF (eVar 2) (aList [eTup [eC (.str w), m]])) σ S).sat W := by
  have e2 : eVar 2 σ S = .ok (.ref q) S := eVar_at hs
  have ck : isLst (.ref q) S = true := by unfold isLst; rw [listAt_ref hq]; rfl
  rw [sat_drop]
  unfold eBm
  rw [e2, bind_ok', if_pos ck]
  simp only [aList_cons, aList_nil, eTup_ev, eC_ev, bind_ok']
  cases q1 : m σ S with
  | bad => rw [q1] at h; exact h.elim
  | exc x S2 => rw [q1] at h; exact h
  | ok v S2 =>
    rw [q1] at h
    obtain ⟨hq2, hn⟩ := (show S2.get q = some (.lst ds) ∧ W.n σ (S2.set q (.lst (ds ++ [.tup [.str w, v]]))) from h)
    simp only [bind_ok', appendF_ev hq2 (by omega : ds.length < 900000), sat_ok]
    exact hn
theorem ats_int {k : Nat} {r : Int} (h1 : 1 ≤ k) (h2 : k ≤ 3) (r0 : 0 ≤ r) (r1 : r < 5) : ∃ u, (k, D.int r, u) ∈ ATS := by
  obtain ⟨m, rfl⟩ : ∃ m : Nat, r = (m : Int) := ⟨r.toNat, by omega⟩
  refine ⟨[48 + m], ?_⟩
  unfold ATS
  simp only [List.mem_append, List.mem_flatMap, List.mem_map]
  refine .inl (.inl (.inr ⟨k, ?_, m, ?_, rfl⟩))
  · simp only [List.mem_cons, List.not_mem_nil, or_false]; omega
  · simp only [List.mem_cons, List.not_mem_nil, or_false]; omega
theorem u_sorts : ∀ x ∈ sorts, ∃ u, (0, D.str x, u) ∈ ATS := fun x h => by
  refine ⟨x, ?_⟩
  unfold ATS
  simp only [List.mem_append, List.mem_flatMap, List.mem_map]
  exact .inl (.inl (.inl ⟨x, h, rfl⟩))
theorem u_arrs : ∀ x ∈ arrs, ∃ u, (4, D.str x, u) ∈ ATS := fun x h => by
  refine ⟨x, ?_⟩
  unfold ATS
  simp only [List.mem_append, List.mem_flatMap, List.mem_map]
  exact .inl (.inr ⟨x, h, rfl⟩)
theorem u_rws : ∀ x ∈ rws, ∃ u, (5, D.str x, u) ∈ ATS := fun x h => by
  refine ⟨x, ?_⟩
  unfold ATS
  simp only [List.mem_append, List.mem_flatMap, List.mem_map]
  exact .inr ⟨x, h, rfl⟩
/-- what stands while atoms are drawn -/
structure AtI (S0 S : Store) (i q m : Nat) : Prop where
  ex : ∃ ds, S.get q = some (.lst ds) ∧ ds.length = m ∧ ∀ d ∈ ds, FmQ 0 d
  pool : Pool S i
  fr : Fr S0 S i
theorem AtI.put {S0 S S2 : Store} {m k : Nat} {ds : List D} {v : D} (hi : i < S0.size) (hq0 : S0.size ≤ q) (hq : S2.get q = some (.lst ds)) (hl : ds.length = m) (hd : ∀ d ∈ ds, FmQ 0 d) (hp : Pool S2 i) (hf : Fr S0 S2 i) (hk : k < 6) (hv : At v ∧ ∃ u, (k, v, u) ∈ ATS) :
    AtI S0 (S2.set q (.lst (ds ++ [.tup [.str (KS.getD k []), v]]))) i q (m + 1) := by
  refine ⟨⟨_, Store.get_set_same (Store.get_lt hq), by simp [hl], fun d h => ?_⟩, hp.keep (Store.get_set_ne (by omega)), hf.set_new hq0⟩
  rcases List.mem_append.mp h with h | h
  · exact hd d h
  · rw [List.mem_singleton] at h
    exact ⟨.atm k v, h, ⟨hk, hv⟩, Nat.le_refl _⟩
/-- one atom more, its value a number drawn -/
theorem ap_int {S0 : Store} {σ : En} {W : Wt} {k m : Nat} {w : Int} {l : List Nat} (hk : k < 6) (hw : KS.getD k [] = l) (hm : m < 9) (hi : i < S0.size) (hq0 : S0.size ≤ q) (h0 : σ[0]? = some (some (.ref i))) (h2 : σ[2]? = some (some (.ref q))) (A : AtI S0 S i q m) (w0 : 0 < w) (w1 : w < 2 ^ 31) (h13 : 1 ≤ k ∧ k ≤ 3) (w5 : w ≤ 5)
    (h : ∀ S2, AtI S0 S2 i q (m + 1) → W.n σ S2) : (sDrop (eBm isLst appendF (eVar 2) (aList [eTup [eC (.str l), eFn (run (n + 1) 26) (aList [eVar 0, eC (.int w)])]])) σ S).sat W := by
  subst hw
  obtain ⟨⟨ds, hq, hl, hd⟩, hp, hf⟩ := A
  refine ap_step h2 hq (by omega) ?_
  have e0 : ∀ {S : Store}, eVar 0 σ S = .ok (.ref i) S := fun {S} => eVar_at h0
  simp only [eFn_ev, aList_cons, aList_nil, e0, eC_ev, bind_ok']
  refine draw_int (n := n) hp w0 w1 fun r S2 r0 r1 hp2 f2 => ?_
  have hq2 : S2.get q = some (.lst ds) := f2.get hq (by omega)
  exact ⟨hq2, h _ (AtI.put (S := S) hi hq0 hq2 hl hd hp2 (hf.trans f2) hk ⟨.int r, ats_int h13.1 h13.2 r0 (by omega)⟩)⟩
theorem ap_str {S0 : Store} {σ : En} {W : Wt} {k m : Nat} {w : Int} {l : List Nat} {xs : List (List Nat)} {ml : ME} (hk : k < 6) (hw : KS.getD k [] = l) (hx : ∀ x ∈ xs, Txt x) (hu : ∀ x ∈ xs, ∃ u, (k, D.str x, u) ∈ ATS) (hxl : (xs.length : Int) = w) (hml : ∀ S, ml σ S = .ok (.lv (xs.map D.str)) S) (hm : m < 9) (hi : i < S0.size) (hq0 : S0.size ≤ q) (h0 : σ[0]? = some (some (.ref i))) (h2 : σ[2]? = some (some (.ref q))) (A : AtI S0 S i q m) (w0 : 0 < w) (w1 : w < 2 ^ 31)
    (h : ∀ S2, AtI S0 S2 i q (m + 1) → W.n σ S2) : (sDrop (eBm isLst appendF (eVar 2) (aList [eTup [eC (.str l), eBin itemF ml (eFn (run (n + 1) 26) (aList [eVar 0, eC (.int w)]))]])) σ S).sat W := by
  subst hw
  obtain ⟨⟨ds, hq, hl, hd⟩, hp, hf⟩ := A
  refine ap_step h2 hq (by omega) ?_
  have e0 : ∀ {S : Store}, eVar 0 σ S = .ok (.ref i) S := fun {S} => eVar_at h0
  simp only [eBin_ev, hml, eFn_ev, aList_cons, aList_nil, e0, eC_ev, bind_ok', sat_bind]
  refine draw_int (n := n) hp w0 w1 fun r S2 r0 r1 hp2 f2 => ?_
  obtain ⟨x, hx1, tx, ex⟩ := pick_at (S := S2) hx (m := w) hxl r0 r1
  rw [ex]
  have hq2 : S2.get q = some (.lst ds) := f2.get hq (by omega)
  exact ⟨hq2, h _ (AtI.put (S := S) hi hq0 hq2 hl hd hp2 (hf.trans f2) hk ⟨.str x tx, hu x hx1⟩)⟩
theorem atoms_ok (hp : Pool S i) : (run (n + 2) 27 [.ref i] S).sat (fun d S2 => ∃ q ds, d = .ref q ∧ S2.get q = some (.lst ds) ∧ ds.length = 7 ∧ (∀ d ∈ ds, FmQ 0 d) ∧ q ≠ i ∧ Pool S2 i ∧ Fr S S2 i) E := by
  rw [run_27]
  refine sat_fin ?_
  unfold m_27
  have hi := hp.lt
  have g1 : ∀ {σ : En} {S : Store}, eLv [eC (.str [104, 105, 116]), eC (.str [109, 105, 115, 115]), eC (.str [99, 114, 111, 119, 100, 101, 100]), eC (.str [98, 97, 99, 107]), eC (.str [116, 104, 114, 111, 119, 110])] σ S = .ok (.lv (sorts.map D.str)) S := rfl
  have g0 : ∀ {σ : En} {S : Store}, eLst [] σ S = .ok (.ref S.size) (S.push (.lst [])) := rfl
  rw [sat_seq, sat_par, g1, sat_ok, g0, sat_ok]
  simp only [List.set_cons_succ, List.set_cons_zero]
  have A0 : AtI S (S.push (.lst [])) i S.size 0 := ⟨⟨[], Store.get_push_same, rfl, fun d h => absurd h List.not_mem_nil⟩, hp.push, Fr.push⟩
  rw [sat_seq]
  refine ap_str (n := n) (k := 0) (xs := sorts) (by omega) rfl t_sorts u_sorts rfl (fun S => rfl) (by omega) hi (Nat.le_refl _) rfl rfl A0 (by omega) (by omega) fun S1 A1 => ?_
  dsimp only
  rw [sat_seq]
  refine ap_int (n := n) (k := 1) (by omega) rfl (by omega) hi (Nat.le_refl _) rfl rfl A1 (by omega) (by omega) (by omega) (by omega) fun S2 A2 => ?_
  dsimp only
  rw [sat_seq]
  refine ap_int (n := n) (k := 2) (by omega) rfl (by omega) hi (Nat.le_refl _) rfl rfl A2 (by omega) (by omega) (by omega) (by omega) fun S3 A3 => ?_
  dsimp only
  rw [sat_seq]
  refine ap_int (n := n) (k := 3) (by omega) rfl (by omega) hi (Nat.le_refl _) rfl rfl A3 (by omega) (by omega) (by omega) (by omega) fun S4 A4 => ?_
  dsimp only
  rw [sat_seq]
  refine ap_str (n := n) (k := 4) (xs := arrs) (by omega) rfl t_arrs u_arrs rfl (fun S => rfl) (by omega) hi (Nat.le_refl _) rfl rfl A4 (by omega) (by omega) fun S5 A5 => ?_
  dsimp only
  rw [sat_seq]
  refine ap_str (n := n) (k := 5) (xs := rws) (by omega) rfl t_rws u_rws rfl (fun S => rfl) (by omega) hi (Nat.le_refl _) rfl rfl A5 (by omega) (by omega) fun S6 A6 => ?_
  dsimp only
  obtain ⟨⟨ds, hq, hl, hd⟩, hp6, hf6⟩ := A6
  have ec : oAdd (run (n + 1)) (.ref S.size) (.lv [.tup [.str wANY]]) S6 = .ok (.ref S6.size) (S6.push (.lst (ds ++ [.tup [.str wANY]]))) := by
    have h1 : addF noOwn (.ref S.size) (.lv [.tup [.str wANY]]) S6 = .bad := rfl
    unfold oAdd opOr orB
    rw [h1]
    have h2 : lsN S6 (.ref S.size) = some ds := by unfold lsN; simp only [hq]
    have h3 : lsN S6 (.lv [.tup [.str wANY]]) = some [.tup [.str wANY]] := rfl
    unfold catR
    simp only [h2, h3]
    rw [if_pos (by rw [hl]; decide)]
  have g9 : ∀ {σ : En} {S : Store}, eLv [eTup [eC (.str [97, 110, 121])]] σ S = .ok (.lv [.tup [.str wANY]]) S := rfl
  simp only [sat_ret, eBin_ev, eVar_s, eVar_0, g9, bind_ok', ec, sat_ok]
  have hs6 := hp6.lt
  refine ⟨S6.size, _, rfl, Store.get_push_same, by simp [hl], fun d h => ?_, by omega, hp6.push, hf6.push_new⟩
  rcases List.mem_append.mp h with h | h
  · exact hd d h
  · rw [List.mem_singleton] at h
    exact ⟨.any, h, trivial, Nat.le_refl _⟩
theorem form_one (d : Nat) (hp : Pool S i) (rcc : ∀ d2, d = d2 + 1 → ∀ S2, Pool S2 i → (run (n + d + 2) 28 [.ref i, .int (d2 : Int)] S2).sat (DrQ S2 i (FmQ d2)) E) : (run (n + d + 3) 28 [.ref i, .int (d : Int)] S).sat (DrQ S i (FmQ d)) E := by
    rw [show n + d + 3 = (n + d + 2) + 1 by omega, run_28]
    refine sat_fin ?_
    unfold m_28
    rw [sat_seq, sat_set]
    simp only [eFn_ev, aList_cons, aList_nil, eVar_0, eC_ev, bind_ok']
    refine draw_int (n := n + d + 1) hp (by omega) (by omega) fun r S1 r0 r1 hp1 f1 => ?_
    simp only [List.set_cons_succ, List.set_cons_zero]
    -- a leaf
    have leaf : ((eBin itemF (eFn (run (n + d + 2) 27) (aList [eVar 0])) (eFn (run (n + d + 2) 26) (aList [eVar 0, eC (.int 7)]))) [some (.ref i), some (.int (d : Int)), some (.int r)] S1).sat (DrQ S i (FmQ d)) E := by
      simp only [eBin_ev, eFn_ev, aList_cons, aList_nil, eVar_0, eC_ev, bind_ok', sat_bind]
      refine (atoms_ok (n := n + d) hp1).imp (fun a S2 ⟨q, ds, ha, hq, hl, hd, hqi, hp2, f2⟩ => ?_) fun _ _ h => h
      subst ha
      refine draw_int (n := n + d + 1) hp2 (by omega) (by omega) fun r2 S3 x0 x1 hp3 f3 => ?_
      have hq3 : S3.get q = some (.lst ds) := f3.get hq hqi
      have hr : r2.toNat < ds.length := by omega
      have ei : itemF (.ref q) (.int r2) S3 = .ok ds[r2.toNat] S3 := by
        have z := atI_nat (xs := ds) (k := r2.toNat) (x := ds[r2.toNat]) (List.getElem?_eq_getElem hr)
        rw [Int.toNat_of_nonneg x0] at z
        exact itemF_seq (xs := ds) (seqAt_list (listAt_ref hq3)) z
      rw [ei]
      obtain ⟨F, e1, e2, e3⟩ := hd _ (List.getElem_mem hr)
      exact ⟨⟨F, e1, e2, by omega⟩, hp3, (f1.trans f2).trans f3⟩
    rw [sat_seq, sat_if]
    have e0 : oEq (run (n + d + 2)) (.int (d : Int)) (.int 0) S1 = .ok (.bl ((d : Int) == 0)) S1 := oEq_int
    simp only [tOr_ev, tOf_ev, eBin_ev, eVar_s, eVar_0, eC_ev, bind_ok', e0]
    cases d with
    | zero =>
      have : (((0 : Nat) : Int) == 0) = true := rfl
      simp only [this, if_true, sat_ok, sat_ret]
      exact leaf
    | succ d =>
      have hz : (((d + 1 : Nat) : Int) == 0) = false := by simp; omega
      have e2 : oEq (run (n + (d + 1) + 2)) (.int r) (.int 2) S1 = .ok (.bl (r == 2)) S1 := oEq_int
      simp only [hz, Bool.false_eq_true, if_false, ltI_ev, bind_ok', sat_ok]
      by_cases h2 : r < 2
      · simp only [decide_eq_true h2, if_true, sat_ret]
        exact leaf
      · simp only [decide_eq_false h2, Bool.false_eq_true, if_false, sat_next, sat_seq, sat_if, tOf_ev, eBin_ev, eVar_s, eVar_0, eC_ev, bind_ok', e2, sat_ok]
        have es : ∀ {S : Store}, oSub (run (n + (d + 1) + 2)) (.int ((d + 1 : Nat) : Int)) (.int 1) S = .ok (.int (d : Int)) S := fun {S} => by
          show Res.ok (D.int (((d + 1 : Nat) : Int) - 1)) S = _
          congr 2
          omega
        have rcc := rcc d rfl
        cases h3 : (r == 2) with
        | true =>
          simp only [if_true, sat_ret, eTup_ev, aList_cons, aList_nil, eC_ev, eFn_ev, eBin_ev, eVar_s, eVar_0, bind_ok', es, sat_bind]
          refine (rcc S1 hp1).imp (fun x S2 ⟨⟨F, hx, hF, hd⟩, hp2, f2⟩ => ?_) fun _ _ h => h
          subst hx
          simp only [sat_ok]
          exact ⟨⟨.nt F, rfl, hF, by unfold dp; omega⟩, hp2, f1.trans f2⟩
        | false =>
          have hm : ∃ b : Bool, itemF (.lv ([wAND, wOR].map D.str)) (.int (r % 2)) S1 = .ok (.str (if b then wAND else wOR)) S1 := by
            rcases (show r % 2 = 0 ∨ r % 2 = 1 by omega) with h | h
            · rw [h]; exact ⟨true, rfl⟩
            · rw [h]; exact ⟨false, rfl⟩
          obtain ⟨b, hb⟩ := hm
          have g3 : ∀ {σ : En} {S : Store}, eLv [eC (.str [97, 110, 100]), eC (.str [111, 114])] σ S = .ok (.lv ([wAND, wOR].map D.str)) S := rfl
          have em : ∀ {S : Store}, modI (.int r) (.int 2) S = .ok (.int (r % 2)) S := fun {S} => rfl
          simp only [Bool.false_eq_true, if_false, sat_next, sat_ret, eTup_ev, aList_cons, aList_nil, eC_ev, eFn_ev, eBin_ev, eVar_s, eVar_0, bind_ok', g3, em, hb, es, sat_bind]
          refine (rcc S1 hp1).imp (fun x S2 ⟨⟨F, hx, hF, hd⟩, hp2, f2⟩ => ?_) fun _ _ h => h
          subst hx
          refine (rcc S2 hp2).imp (fun x S3 ⟨⟨F2, hx, hF2, hd2⟩, hp3, f3⟩ => ?_) fun _ _ h => h
          subst hx
          simp only [sat_ok]
          cases b with
          | true => exact ⟨⟨.an F F2, rfl, ⟨hF, hF2⟩, by unfold dp; omega⟩, hp3, (f1.trans f2).trans f3⟩
          | false => exact ⟨⟨.or F F2, rfl, ⟨hF, hF2⟩, by unfold dp; omega⟩, hp3, (f1.trans f2).trans f3⟩
theorem form_ok : ∀ (d n : Nat) (S : Store), Pool S i → (run (n + d + 3) 28 [.ref i, .int (d : Int)] S).sat (DrQ S i (FmQ d)) E
  | 0, n, S, hp => form_one 0 hp fun d2 e => absurd e (by omega)
  | d + 1, n, S, hp => form_one (d + 1) hp fun d2 e S2 h2 => by
    obtain rfl : d = d2 := by omega
    have z := form_ok d n S2 h2
    rwa [show n + d + 3 = n + (d + 1) + 2 by omega] at z
end
end L2.Mi.Pg

set_option Elab.async false
set_option linter.all false
set_option maxRecDepth 100000
set_option maxHeartbeats 1000000
namespace L2.Mi.Pg
open PySem
def vt : D → List Nat
  | .str x => x
  | .int i => [48 + i.toNat]
  | _ => []
abbrev wO : List Nat := [40]
abbrev wC : List Nat := [41]
def wds : Form → Nat → List (List Nat)
  | .any, _ => [wANY]
  | .nt f, _ => wNOT :: wds f 2
  | .an f g, r => if 1 < r then wO :: (wds f 1 ++ wAND :: wds g 2) ++ [wC] else wds f 1 ++ wAND :: wds g 2
  | .or f g, r => if 0 < r then wO :: (wds f 0 ++ wOR :: wds g 1) ++ [wC] else wds f 0 ++ wOR :: wds g 1
  | .atm k v, _ => [KS.getD k [], vt v]
theorem wds_len : ∀ (F : Form) (r : Nat), (wds F r).length + 3 ≤ 5 * 2 ^ dp F
  | .any, r => by unfold wds dp; simp
  | .nt f, r => by
    have h := wds_len f 2
    unfold wds dp
    rw [List.length_cons, Nat.pow_succ]
    omega
  | .an f g, r => by
    have h1 := wds_len f 1
    have h2 := wds_len g 2
    have p1 : 2 ^ dp f ≤ 2 ^ max (dp f) (dp g) := Nat.pow_le_pow_right (by omega) (by omega)
    have p2 : 2 ^ dp g ≤ 2 ^ max (dp f) (dp g) := Nat.pow_le_pow_right (by omega) (by omega)
    unfold wds dp
    rw [Nat.pow_succ]
    split
    · simp only [List.length_cons, List.length_append, List.length_nil]
      omega
    · simp only [List.length_cons, List.length_append]
      omega
  | .or f g, r => by
    have h1 := wds_len f 0
    have h2 := wds_len g 1
    have p1 : 2 ^ dp f ≤ 2 ^ max (dp f) (dp g) := Nat.pow_le_pow_right (by omega) (by omega)
    have p2 : 2 ^ dp g ≤ 2 ^ max (dp f) (dp g) := Nat.pow_le_pow_right (by omega) (by omega)
    unfold wds dp
    rw [Nat.pow_succ]
    split
    · simp only [List.length_cons, List.length_append, List.length_nil]
      omega
    · simp only [List.length_cons, List.length_append]
      omega
  | .atm k v, r => by unfold wds dp; simp
theorem wds_len' (F : Form) (r : Nat) (h : dp F ≤ 8) : (wds F r).length ≤ 1280 := by
  have h1 := wds_len F r
  have h2 : 2 ^ dp F ≤ 2 ^ 8 := Nat.pow_le_pow_right (by omega) h
  omega
section
variable {S : Store} {n i : Nat} {E : Xn → Store → Prop} {call : Nat → FN}
theorem str_at {k : Nat} {v : D} {u : List Nat} (h : (k, v, u) ∈ ATS) : fnOr strI strT [v] S = .ok (.str (vt v)) S ∧ vt v = u := by
  unfold ATS at h
  simp only [List.mem_append, List.mem_flatMap, List.mem_map, List.mem_cons, List.not_mem_nil, or_false] at h
  rcases h with ((⟨w, h, e⟩ | ⟨k, hk, m, hm, e⟩) | ⟨w, h, e⟩) | ⟨w, h, e⟩
  · obtain ⟨_, e⟩ := Prod.mk.inj e
    obtain ⟨e1, e2⟩ := Prod.mk.inj e
    subst e1
    exact ⟨rfl, e2⟩
  · obtain ⟨_, e⟩ := Prod.mk.inj e
    obtain ⟨e1, e2⟩ := Prod.mk.inj e
    subst e1 e2
    rcases hm with rfl | rfl | rfl | rfl | rfl <;> exact ⟨by kernel_rfl, rfl⟩
  · obtain ⟨_, e⟩ := Prod.mk.inj e
    obtain ⟨e1, e2⟩ := Prod.mk.inj e
    subst e1
    exact ⟨rfl, e2⟩
  · obtain ⟨_, e⟩ := Prod.mk.inj e
    obtain ⟨e1, e2⟩ := Prod.mk.inj e
    subst e1
    exact ⟨rfl, e2⟩
theorem add_lv {a b : List (List Nat)} (h : a.length + b.length ≤ 900000) : oAdd call (.lv (a.map D.str)) (.lv (b.map D.str)) S = .ok (.lv ((a ++ b).map D.str)) S := by
  have e : addF noOwn (.lv (a.map D.str)) (.lv (b.map D.str)) S = .ok (.lv (a.map D.str ++ b.map D.str)) S := by
    show (if (a.map D.str).length + (b.map D.str).length ≤ lim then Res.ok (D.lv (a.map D.str ++ b.map D.str)) S else .bad) = _
    rw [if_pos (by rw [List.length_map, List.length_map]; have := lim_big; omega)]
  unfold oAdd opOr orB
  rw [e, List.map_append]
theorem add_ii {a b : Int} : oAdd call (.int a) (.int b) S = .ok (.int (a + b)) S := rfl
theorem key_no {k : Nat} (hk : k < 6) : Txt (KS.getD k []) ∧ (KS.getD k [] == wANY) = false ∧ (KS.getD k [] == wNOT) = false ∧ ([wAND, wOR].any (· == KS.getD k [])) = false := by
  match k, hk with
  | 0, _ => exact ⟨Txt.all rfl, rfl, rfl, rfl⟩
  | 1, _ => exact ⟨Txt.all rfl, rfl, rfl, rfl⟩
  | 2, _ => exact ⟨Txt.all rfl, rfl, rfl, rfl⟩
  | 3, _ => exact ⟨Txt.all rfl, rfl, rfl, rfl⟩
  | 4, _ => exact ⟨Txt.all rfl, rfl, rfl, rfl⟩
  | 5, _ => exact ⟨Txt.all rfl, rfl, rfl, rfl⟩
theorem eLv1 {w : List Nat} {σ : En} : eLv [eC (.str w)] σ S = .ok (D.lv ([w].map D.str)) S := rfl
/-- the second half: a pair of forms -/
theorem w_two {x y : D} {w : List Nat} {r own : Nat} {a b : List (List Nat)} (hw : w = wAND ∧ own = 1 ∨ w = wOR ∧ own = 0) (h1 : call 29 [x, .int (own : Int)] S = .ok (.lv (a.map D.str)) S) (h2 : call 29 [y, .int ((own + 1 : Nat) : Int)] S = .ok (.lv (b.map D.str)) S) (hl : a.length + b.length ≤ 3000) :
    m_29 call [some (.tup [.str w, x, y]), some (.int (r : Int)), none, none] S = .rt (.lv ((if own < r then wO :: (a ++ w :: b) ++ [wC] else a ++ w :: b).map D.str)) S := by
  have tw : Txt w := by rcases hw with ⟨rfl, _⟩ | ⟨rfl, _⟩ <;> exact Txt.all rfl
  have n1 : (w == wANY) = false := by rcases hw with ⟨rfl, _⟩ | ⟨rfl, _⟩ <;> rfl
  have n2 : (w == wNOT) = false := by rcases hw with ⟨rfl, _⟩ | ⟨rfl, _⟩ <;> rfl
  have n3 : ([wAND, wOR].any (· == w)) = true := by rcases hw with ⟨rfl, _⟩ | ⟨rfl, _⟩ <;> rfl
  have e3 : fnOr intF intT [.bl (w == wAND)] S = .ok (.int (own : Int)) S := by rcases hw with ⟨rfl, rfl⟩ | ⟨rfl, rfl⟩ <;> rfl
  unfold m_29
  rw [seq_no' (n1 ▸ t_eq tw tAny), seq_no' (n2 ▸ t_eq tw tNot')]
  have hin := in2 (call := call) (S := S) (w := w) (l := [x, y]) (σ := [some (.int (r : Int)), none, none])
  rw [n3] at hin
  have hb : ∀ {σ : En}, eLv [eBin itemF (eVar 0) (eC (.int 0))] (some (.tup [.str w, x, y]) :: σ) S = .ok (.lv ([w].map D.str)) S := fun {σ} => by
    rw [eLv_ev]
    simp only [aList_cons, aList_nil, eBin_ev, eVar_0, eC_ev, bind_ok', i0]
    rfl
  have ec : oAdd call (.int (own : Int)) (.int 1) S = .ok (.int ((own + 1 : Nat) : Int)) S := by rw [add_ii]; rfl
  have eq1 : oEq call (.str w) (.str [97, 110, 100]) S = .ok (.bl (w == wAND)) S := oEq_str tw tAnd'
  rw [sSeq_ev, sIf_ev, hin]
  simp only [if_true]
  have a1 : oAdd call (.lv (a.map D.str)) (.lv ([w].map D.str)) S = .ok (.lv ((a ++ [w]).map D.str)) S := add_lv (by simp; omega)
  have a2 : oAdd call (.lv ((a ++ [w]).map D.str)) (.lv (b.map D.str)) S = .ok (.lv ((a ++ [w] ++ b).map D.str)) S := add_lv (by simp; omega)
  have a3 : oAdd call (.lv ([wO].map D.str)) (.lv ((a ++ [w] ++ b).map D.str)) S = .ok (.lv (([wO] ++ (a ++ [w] ++ b)).map D.str)) S := add_lv (by simp; omega)
  have a4 : oAdd call (.lv (([wO] ++ (a ++ [w] ++ b)).map D.str)) (.lv ([wC].map D.str)) S = .ok (.lv (([wO] ++ (a ++ [w] ++ b) ++ [wC]).map D.str)) S := add_lv (by simp; omega)
  simp only [sSeq_ev, sAsg_ev, eFn_ev, aList_cons, aList_nil, eBin_ev, eVar_0, eVar_s, eC_ev, bind_ok', i0, i1, i2, eq1, e3, gName_ev, List.set_cons_succ, List.set_cons_zero, h1, hb, ec, h2, a1, a2, sRet_ev, eIf_ev, tOf_ev, ltI_ev, eLv1]
  have hc : decide ((own : Int) < (r : Int)) = decide (own < r) := by
    by_cases h : own < r
    · rw [decide_eq_true h, decide_eq_true (by omega)]
    · rw [decide_eq_false h, decide_eq_false (by omega)]
  rw [hc]
  by_cases h : own < r
  · simp only [decide_eq_true h, if_true, if_pos h, eBin_ev, eVar_s, eVar_0, bind_ok', eLv1, a3, a4]
    simp
  · simp only [decide_eq_false h, Bool.false_eq_true, if_false, if_neg h, eVar_s, eVar_0]
    simp
theorem words_ok : ∀ (F : Form) (m r : Nat), FOk F → dp F < m → dp F ≤ 8 → run m 29 [fd F, .int (r : Int)] S = .ok (.lv ((wds F r).map D.str)) S
  | F, 0, _, _, h2, _ => absurd h2 (by omega)
  | .any, m + 1, r, _, _, _ => by
    rw [run_29]
    unfold m_29 fd
    rw [seq_yes (t_eq tAny tAny) rfl]
    rfl
  | .nt f, m + 1, r, h1, h2, h3 => by
    have ih := words_ok f m 2 h1 (by unfold dp at h2; omega) (by unfold dp at h3; omega)
    have hl := wds_len' f 2 (by unfold dp at h3; omega)
    rw [run_29]
    unfold m_29 fd
    rw [seq_no' (t_eq tNot' tAny)]
    have a1 : oAdd (run m) (.lv ([wNOT].map D.str)) (.lv ((wds f 2).map D.str)) S = .ok (.lv (([wNOT] ++ wds f 2).map D.str)) S := add_lv (by simp; omega)
    have ih' : run m 29 [fd f, .int 2] S = .ok (.lv ((wds f 2).map D.str)) S := ih
    have z : ∀ {σ : En}, sRet (eBin (oAdd (run m)) (eLv [eC (.str [110, 111, 116])]) (eFn (run m 29) (aList [eBin itemF (eVar 0) (eC (.int 1)), eC (.int 2)]))) (some (.tup [.str wNOT, fd f]) :: σ) S = .rt (.lv (([wNOT] ++ wds f 2).map D.str)) S := fun {σ} => by
      simp only [sRet_ev, eBin_ev, eLv1, bind_ok', eFn_ev, aList_cons, aList_nil, eVar_0, eC_ev, i1, ih', a1]
    rw [seq_yes (t_eq tNot' tNot') z]
    rfl
  | .an f g, m + 1, r, h1, h2, h3 => by
    have l1 := wds_len' f 1 (by unfold dp at h3; omega)
    have l2 := wds_len' g 2 (by unfold dp at h3; omega)
    rw [run_29]
    unfold fd
    rw [w_two (.inl ⟨rfl, rfl⟩) (words_ok f m 1 h1.1 (by unfold dp at h2; omega) (by unfold dp at h3; omega)) (words_ok g m 2 h1.2 (by unfold dp at h2; omega) (by unfold dp at h3; omega)) (by omega)]
    rfl
  | .or f g, m + 1, r, h1, h2, h3 => by
    have l1 := wds_len' f 0 (by unfold dp at h3; omega)
    have l2 := wds_len' g 1 (by unfold dp at h3; omega)
    rw [run_29]
    unfold fd
    rw [w_two (.inr ⟨rfl, rfl⟩) (words_ok f m 0 h1.1 (by unfold dp at h2; omega) (by unfold dp at h3; omega)) (words_ok g m 1 h1.2 (by unfold dp at h2; omega) (by unfold dp at h3; omega)) (by omega)]
    rfl
  | .atm k v, m + 1, r, h1, h2, h3 => by
    obtain ⟨hk, hv, u, hu⟩ := h1
    obtain ⟨tk, n1, n2, n3⟩ := key_no hk
    have es := (str_at (S := S) hu).1
    rw [run_29]
    unfold m_29 fd
    have hin := in2 (call := run m) (S := S) (w := KS.getD k []) (l := [v]) (σ := [some (.int (r : Int)), none, none])
    rw [n3] at hin
    rw [seq_no' (n1 ▸ t_eq tk tAny), seq_no' (n2 ▸ t_eq tk tNot'), seq_no' hin]
    simp only [sRet_ev, eLv_ev, aList_cons, aList_nil, eBin_ev, eVar_0, eC_ev, bind_ok', i0, i1, eFn_ev, es, fin_rt]
    rfl
def brk : Nat → List (List Nat) → List (List Nat)
  | 0, w => w
  | j + 1, w => wO :: (brk j w ++ [wC])
theorem brk_len {w : List (List Nat)} : ∀ j, (brk j w).length = w.length + 2 * j
  | 0 => rfl
  | j + 1 => by
    unfold brk
    rw [List.length_cons, List.length_append, brk_len j]
    simp
    omega
theorem more_ok {F : Form} (hp : Pool S i) (hF : FOk F) (hd : dp F ≤ 8) : (run (n + 10) 34 [.ref i, fd F] S).sat (DrQ S i fun d => ∃ j, j ≤ 2 ∧ d = .lv ((brk j (wds F 0)).map D.str)) E := by
  rw [run_34]
  refine sat_fin ?_
  unfold m_34
  have ew : eFn (run (n + 9) 29) (aList [eVar 1, eC (.int 0)]) [some (.ref i), some (fd F), none, none] S = .ok (.lv ((wds F 0).map D.str)) S := by
    simp only [eFn_ev, aList_cons, aList_nil, eVar_s, eVar_0, eC_ev, bind_ok']
    exact words_ok F (n + 9) 0 hF (by omega) hd
  rw [set_first ew]
  simp only [List.set_cons_succ, List.set_cons_zero]
  obtain ⟨r, S1, e, r0, r1, hp1, f1, _⟩ := tk_ok (n := n + 8) (w := 3) hp (by omega) (by omega)
  have hl := wds_len' F 0 hd
  rw [sat_seq]
  refine for_sat (ds := ups 0 r.toNat) (S1 := S1) (fun ds σ S2 => Pool S2 i ∧ Fr S S2 i ∧ ∃ j o3, j + ds.length = r.toNat ∧ σ = [some (.ref i), some (fd F), some (.lv ((brk j (wds F 0)).map D.str)), o3])
    (walk_r1 (by simp only [eFn_ev, aList_cons, aList_nil, eVar_0, eC_ev, bind_ok']; exact e) (by omega) (by omega)) (by rw [ups_len]; omega) ⟨hp1, f1, 0, none, by rw [ups_len]; omega, rfl⟩ ?_ ?_
  · rintro d ds σ S2 ⟨hp2, f2, j, o3, hj, rfl⟩
    rw [List.length_cons] at hj
    simp only [gName_ev, sat_ok, List.set_cons_succ, List.set_cons_zero]
    have bl := brk_len (w := wds F 0) j
    have a1 : oAdd (run (n + 9)) (.lv ([wO].map D.str)) (.lv ((brk j (wds F 0)).map D.str)) S2 = .ok (.lv (([wO] ++ brk j (wds F 0)).map D.str)) S2 := add_lv (by simp; omega)
    have a2 : oAdd (run (n + 9)) (.lv (([wO] ++ brk j (wds F 0)).map D.str)) (.lv ([wC].map D.str)) S2 = .ok (.lv (([wO] ++ brk j (wds F 0) ++ [wC]).map D.str)) S2 := add_lv (by simp; omega)
    simp only [sat_set, eBin_ev, eLv1, eVar_s, eVar_0, bind_ok', a1, a2, sat_ok, List.set_cons_succ, List.set_cons_zero]
    exact ⟨hp2, f2, j + 1, _, by omega, rfl⟩
  · rintro σ S2 ⟨hp2, f2, j, o3, hj, rfl⟩
    simp only [sat_ret, eVar_s, eVar_0, sat_ok]
    exact ⟨⟨j, by simp at hj; omega, rfl⟩, hp2, f2⟩
end
end L2.Mi.Pg

set_option Elab.async false
set_option linter.all false
set_option maxRecDepth 100000
set_option maxHeartbeats 1000000
namespace L2.Mi.Pg
open PySem
abbrev SGS : List Nat := [123, 125, 91, 93, 43, 45, 42, 40, 41]
abbrev KWS : List (List Nat) := [[97, 114, 114, 97, 121], [102, 111, 114], [114, 101, 97, 100], [119, 114, 105, 116, 101], [102, 108, 117, 115, 104], [110]]
abbrev OC : List Nat := [40, 41]
/-- the words, but for the brackets -/
def VOC : List (List Nat) := [wANY, wNOT, wAND, wOR] ++ KS ++ ATS.map (·.2.2)
def vocB (w : List Nat) : Bool := !w.isEmpty && (w.all LD && (!(kindS KWS w == BADW) && (decide (w.length ≤ 8) && (!(subT w OC) && w.all (· < 0x110000)))))
theorem voc_all : VOC.all vocB = true := by decide +kernel
theorem bra_all : subT wO OC = true ∧ subT wC OC = true := by decide +kernel
structure Voc (w : List Nat) : Prop where
  ne : w ≠ []
  ld : ∀ c ∈ w, LD c = true
  kd : kindS KWS w ≠ BADW
  ln : w.length ≤ 8
  no : subT w OC = false
  tx : Txt w
theorem voc_of {w : List Nat} (h : w ∈ VOC) : Voc w := by
  have z := List.all_eq_true.mp voc_all w h
  unfold vocB at z
  simp only [Bool.and_eq_true, Bool.not_eq_true', decide_eq_true_eq, List.all_eq_true] at z
  obtain ⟨a, b, c, d, e, f⟩ := z
  refine ⟨fun h => ?_, b, beq_eq_false_iff_ne.mp c, d, e, fun x hx => by simpa using f x hx⟩
  subst h
  cases a
structure Pc where
  pre : List Nat
  w : List Nat
  post : List Nat
def txtOf : List Pc → List Nat
  | [] => []
  | p :: ps => p.pre ++ (p.w ++ (p.post ++ txtOf ps))
def Gap (l : List Nat) : Prop := ∀ c ∈ l, c = 32 ∨ c = 10
structure PcOk (p : Pc) : Prop where
  w : p.w ∈ VOC ∨ p.w = wO ∨ p.w = wC
  pre : Gap p.pre
  post : Gap p.post
  l1 : p.pre.length ≤ 2
  l2 : p.post.length ≤ 1
def Seps (ps : List Pc) : Prop := ∀ p ∈ ps, p.w ∈ VOC → p.pre ≠ []
theorem txtOf_app : ∀ {a b : List Pc}, txtOf (a ++ b) = txtOf a ++ txtOf b
  | [], b => rfl
  | p :: a, b => by
    simp only [List.cons_append, txtOf, txtOf_app, List.append_assoc]
theorem txtOf_len : ∀ {ps : List Pc}, (∀ p ∈ ps, PcOk p) → (txtOf ps).length ≤ 11 * ps.length ∧ Txt (txtOf ps)
  | [], _ => ⟨by simp [txtOf], fun c h => by unfold txtOf at h; cases h⟩
  | p :: ps, h => by
    obtain ⟨i1, i2⟩ := txtOf_len fun q hq => h q (List.mem_cons_of_mem _ hq)
    have hp := h p (by simp)
    have hw : p.w.length ≤ 8 ∧ Txt p.w := by
      rcases hp.w with z | z | z
      · exact ⟨(voc_of z).ln, (voc_of z).tx⟩
      · rw [z]; exact ⟨by simp, Txt.all rfl⟩
      · rw [z]; exact ⟨by simp, Txt.all rfl⟩
    have tg : ∀ {l : List Nat}, Gap l → Txt l := fun hg c hc => by rcases hg c hc with rfl | rfl <;> omega
    have h1 := hp.l1
    have h2 := hp.l2
    unfold txtOf
    refine ⟨?_, (tg hp.pre).app (hw.2.app ((tg hp.post).app i2))⟩
    simp only [List.length_append, List.length_cons]
    omega
def kd (w : List Nat) : List Nat := if w = wO ∨ w = wC then MARK else kindS KWS w
def TkW : List (List Nat) → List Tok → Prop
  | [], ts => ∃ p, ts = [⟨ENDW, [], p⟩]
  | w :: ws, ts => ∃ p ts', ts = ⟨kd w, w, p⟩ :: ts' ∧ TkW ws ts'
theorem tk_gaps {sg : List Nat} {ks : List (List Nat)} {rest : List Nat} {ts : List Tok} : ∀ {g : List Nat} {a : Nat}, Gap g → Tk sg ks (a + g.length) rest ts → Tk sg ks a (g ++ rest) ts
  | [], a, _, h => h
  | c :: g, a, hg, h => by
    refine .gap (hg c (by simp)) (tk_gaps (fun x hx => hg x (List.mem_cons_of_mem _ hx)) ?_)
    rw [List.length_cons] at h
    rwa [show a + 1 + g.length = a + (g.length + 1) by omega]
/-- what stands ahead of a rest -/
theorem first_no {ps : List Pc} (h : ∀ p ∈ ps, PcOk p) (hs : Seps ps) : ∀ c t, txtOf ps = c :: t → LD c = false := by
  intro c t e
  cases ps with
  | nil => cases e
  | cons p ps =>
    have hp := h p (by simp)
    unfold txtOf at e
    cases hq : p.pre with
    | nil =>
      rcases hp.w with z | z | z
      · exact absurd hq (hs p (by simp) z)
      · rw [hq, z] at e
        cases e
        rfl
      · rw [hq, z] at e
        cases e
        rfl
    | cons x r =>
      rw [hq] at e
      cases e
      rcases hp.pre c (by rw [hq]; simp) with rfl | rfl <;> rfl
theorem tk_pcs : ∀ (ps : List Pc) (a : Nat), (∀ p ∈ ps, PcOk p) → Seps ps.tail → ∃ ts, Tk SGS KWS a (txtOf ps) ts ∧ TkW (ps.map Pc.w) ts
  | [], a, _, _ => ⟨_, .nil, a, rfl⟩
  | p :: ps, a, h, hs => by
    have hp := h p (by simp)
    have h2 : ∀ q ∈ ps, PcOk q := fun q hq => h q (List.mem_cons_of_mem _ hq)
    have hs1 : Seps ps := hs
    have hs2 : Seps ps.tail := fun q hq => hs1 q (List.mem_of_mem_tail hq)
    obtain ⟨ts, k1, k2⟩ := tk_pcs ps (a + p.pre.length + p.w.length + p.post.length) h2 hs2
    have k3 := tk_gaps hp.post k1
    have hn : ∀ c t, p.post ++ txtOf ps = c :: t → LD c = false := fun c t e => by
      cases hq : p.post with
      | nil => rw [hq] at e; exact first_no h2 hs1 c t e
      | cons x r =>
        rw [hq] at e
        cases e
        rcases hp.post c (by rw [hq]; simp) with rfl | rfl <;> rfl
    refine ⟨⟨kd p.w, p.w, a + p.pre.length⟩ :: ts, ?_, _, _, rfl, k2⟩
    unfold txtOf
    refine tk_gaps hp.pre ?_
    rcases hp.w with z | z | z
    · have v := voc_of z
      have nk : kd p.w = kindS KWS p.w := by
        unfold kd
        refine if_neg fun e => ?_
        have hno := v.no
        rcases e with e | e
        · rw [e, bra_all.1] at hno; cases hno
        · rw [e, bra_all.2] at hno; cases hno
      rw [nk]
      exact .run v.ne v.ld hn v.kd k3
    · rw [z] at k3 ⊢
      exact .sign (by decide) (by decide) (by decide) k3
    · rw [z] at k3 ⊢
      exact .sign (by decide) (by decide) (by decide) k3
def jp : List (List Nat) → List Pc
  | [] => []
  | w :: ws => ⟨[], w, []⟩ :: ws.map fun w => ⟨[32], w, []⟩
theorem jp_w : ∀ ws, (jp ws).map Pc.w = ws
  | [] => rfl
  | w :: ws => by
    unfold jp
    rw [List.map_cons, List.map_map]
    congr 1
    exact List.map_id _
theorem jp_ok {ws : List (List Nat)} (h : ∀ w ∈ ws, w ∈ VOC ∨ w = wO ∨ w = wC) : (∀ p ∈ jp ws, PcOk p) ∧ Seps (jp ws).tail := by
  cases ws with
  | nil => exact ⟨fun p hp => absurd hp List.not_mem_nil, fun p hp => absurd hp List.not_mem_nil⟩
  | cons w ws =>
    refine ⟨fun p hp => ?_, fun p hp hv => ?_⟩
    · unfold jp at hp
      rcases List.mem_cons.mp hp with rfl | hp
      · exact ⟨h _ (by simp), fun c hc => absurd hc List.not_mem_nil, fun c hc => absurd hc List.not_mem_nil, by simp, by simp⟩
      · obtain ⟨x, hx, rfl⟩ := List.mem_map.mp hp
        exact ⟨h _ (List.mem_cons_of_mem _ hx), fun c hc => by simp at hc; exact .inl hc, fun c hc => absurd hc List.not_mem_nil, by simp, by simp⟩
    · unfold jp at hp
      obtain ⟨x, hx, rfl⟩ := List.mem_map.mp (show p ∈ ws.map _ from hp)
      simp
theorem joinL_jp : ∀ ws, TL.joinL [32] ws = txtOf (jp ws)
  | [] => rfl
  | [w] => by simp [TL.joinL, jp, txtOf]
  | w :: w2 :: ws => by
    have ih := joinL_jp (w2 :: ws)
    simp only [TL.joinL, jp, txtOf, List.map_cons] at ih ⊢
    rw [ih]
    simp
section
variable {S : Store} {n i : Nat} {E : Xn → Store → Prop}
def gaps : List (List Nat) := [[32], [10], [32, 32]]
theorem gaps_ok : ∀ g ∈ gaps, Txt g := fun g h => by
  simp only [gaps, List.mem_cons, List.not_mem_nil, or_false] at h
  rcases h with rfl | rfl | rfl <;> exact Txt.all rfl
theorem gaps_gap : ∀ g ∈ gaps, Gap g ∧ g ≠ [] ∧ g.length ≤ 2 := fun g h => by
  simp only [gaps, List.mem_cons, List.not_mem_nil, or_false] at h
  rcases h with rfl | rfl | rfl <;> exact ⟨fun c hc => by simp at hc; omega, by simp, by simp⟩
def tB1 (call : Nat → FN) : MS := sSet 5 (eBin itemF (eVar 2) (eFn (call 26) (aList [eVar 0, eC (.int 3)])))
def tB2 (call : Nat → FN) : MS := sSet 6 (eAnd (eBin (inTF false) (eVar 4) (eC (.str [40, 41]))) (eBin (oEq call) (eFn (call 26) (aList [eVar 0, eC (.int 2)])) (eC (.int 0))))
def tB3 (call : Nat → FN) : MS := sIf (tOr (tAnd (tOf (eBin (oNe call) (eVar 3) (eC (.str [])))) (tNot (tTru (eVar 6)))) (tOf (eBin (oEq call) (eFn (call 26) (aList [eVar 0, eC (.int 4)])) (eC (.int 0))))) (sSet 3 (eBin (oAdd call) (eVar 3) (eVar 5))) (sNext)
def tB4 (call : Nat → FN) : MS := sSet 3 (eBin (oAdd call) (eVar 3) (eVar 4))
def tB5 (call : Nat → FN) : MS := sSet 3 (eBin (oAdd call) (eVar 3) (eIf (tOr (tOf (eBin (inTF true) (eVar 4) (eC (.str [40, 41])))) (tOf (eBin (oEq call) (eFn (call 26) (aList [eVar 0, eC (.int 2)])) (eC (.int 0))))) (eC (.str [])) (eC (.str [32]))))
theorem m33 {call : Nat → FN} : m_33 call = sSeq (sPar 2 3 (eLv [eC (.str [32]), eC (.str [10]), eC (.str [32, 32])]) (eC (.str []))) (sSeq (sFor (iOr (iSeq (eVar 1)) (iTxt (eVar 1))) (gName 4) (sSeq (tB1 call) (sSeq (tB2 call) (sSeq (tB3 call) (sSeq (tB4 call) (tB5 call))))) 100000) (sRet (eVar 3))) := (rfl)
theorem add_ss {call : Nat → FN} {a b : List Nat} (h : a.length + b.length ≤ 900000) : oAdd call (.str a) (.str b) S = .ok (.str (a ++ b)) S := by
  have e : addF noOwn (.str a) (.str b) S = .ok (.str (a ++ b)) S := by
    show (if a.length + b.length ≤ lim then Res.ok (D.str (a ++ b)) S else .bad) = _
    rw [if_pos (by have := lim_big; omega)]
  unfold oAdd opOr orB
  rw [e]
theorem in_oc {neg : Bool} {w : List Nat} : inTF neg (.str w) (.str [40, 41]) S = .ok (.bl (xor neg (subT w OC))) S := rfl
/-- is a draw 0 -/
theorem take0 {w : Int} {σ : En} (h0 : ∀ S, eVar 0 σ S = .ok (.ref i) S) (hp : Pool S i) (w0 : 0 < w) (w1 : w < 2 ^ 31) : ∃ b S2, eBin (oEq (run (n + 1))) (eFn (run (n + 1) 26) (aList [eVar 0, eC (.int w)])) (eC (.int 0)) σ S = .ok (.bl b) S2 ∧ Pool S2 i ∧ Fr S S2 i := by
  obtain ⟨r, S1, e, r0, r1, hp1, f1, _⟩ := tk_ok (n := n) hp w0 w1
  refine ⟨r == 0, S1, ?_, hp1, f1⟩
  simp only [eBin_ev, eFn_ev, aList_cons, aList_nil, h0, eC_ev, bind_ok', e, oEq_int]
theorem text_turn {ws : D} {o5 o6 : Option D} {t w : List Nat} {b : Bool} (hp : Pool S i) (hb : subT w OC = b) (ht : Txt t) (hl : t.length ≤ 100000) (hw : w.length ≤ 8) : ∃ pre post S2 p5 p6, Gap pre ∧ Gap post ∧ pre.length ≤ 2 ∧ post.length ≤ 1 ∧ (b = false → t ≠ [] → pre ≠ []) ∧ Pool S2 i ∧ Fr S S2 i ∧
    sSeq (tB1 (run (n + 1))) (sSeq (tB2 (run (n + 1))) (sSeq (tB3 (run (n + 1))) (sSeq (tB4 (run (n + 1))) (tB5 (run (n + 1)))))) [some (.ref i), some ws, some (.lv (gaps.map D.str)), some (.str t), some (.str w), o5, o6] S = .nx [some (.ref i), some ws, some (.lv (gaps.map D.str)), some (.str (t ++ (pre ++ (w ++ post)))), some (.str w), p5, p6] S2 := by
  -- the gap
  obtain ⟨r, S1, e, r0, r1, hp1, f1, _⟩ := tk_ok (n := n) (w := 3) hp (by omega) (by omega)
  obtain ⟨g, hg, tg, eg⟩ := pick_at (S := S1) gaps_ok (m := 3) rfl r0 r1
  obtain ⟨g1, g2, g3⟩ := gaps_gap g hg
  have x1 : tB1 (run (n + 1)) [some (.ref i), some ws, some (.lv (gaps.map D.str)), some (.str t), some (.str w), o5, o6] S = .nx [some (.ref i), some ws, some (.lv (gaps.map D.str)), some (.str t), some (.str w), some (.str g), o6] S1 := by
    unfold tB1
    simp only [sAsg_ev, eBin_ev, eFn_ev, aList_cons, aList_nil, eVar_0, eVar_s, eC_ev, bind_ok', e, eg, gName_ev, List.set_cons_succ, List.set_cons_zero]
  -- tight
  obtain ⟨tb, S2, x2, hp2, f2, htb⟩ : ∃ tb S2, tB2 (run (n + 1)) [some (.ref i), some ws, some (.lv (gaps.map D.str)), some (.str t), some (.str w), some (.str g), o6] S1 = .nx [some (.ref i), some ws, some (.lv (gaps.map D.str)), some (.str t), some (.str w), some (.str g), some (.bl tb)] S2 ∧ Pool S2 i ∧ Fr S1 S2 i ∧ (b = false → tb = false) := by
    unfold tB2
    cases b with
    | false =>
      refine ⟨false, S1, ?_, hp1, Fr.refl, fun _ => rfl⟩
      simp only [sAsg_ev, eAnd_ev, tOf_ev, eBin_ev, eVar_0, eVar_s, eC_ev, bind_ok', in_oc, hb, Bool.false_xor, Bool.false_eq_true, if_false, gName_ev, List.set_cons_succ, List.set_cons_zero]
    | true =>
      obtain ⟨c, S2, e2, hp2, f2⟩ := take0 (n := n) (w := 2) (σ := [some (.ref i), some ws, some (.lv (gaps.map D.str)), some (.str t), some (.str w), some (.str g), o6]) (fun S => eVar_0) hp1 (by omega) (by omega)
      refine ⟨c, S2, ?_, hp2, f2, fun h => by cases h⟩
      unfold sSet
      rw [sAsg_ev, eAnd_ev, tOf_ev]
      rw [show eBin (inTF false) (eVar 4) (eC (.str [40, 41])) [some (.ref i), some ws, some (.lv (gaps.map D.str)), some (.str t), some (.str w), some (.str g), o6] S1 = .ok (.bl true) S1 by simp only [eBin_ev, eVar_0, eVar_s, eC_ev, bind_ok', in_oc, hb, Bool.false_xor]]
      simp only [bind_ok', if_true, e2, gName_ev, List.set_cons_succ, List.set_cons_zero]
  -- the gap put
  obtain ⟨pre, S3, x3, hp3, f3, hpre, hp0⟩ : ∃ pre S3, tB3 (run (n + 1)) [some (.ref i), some ws, some (.lv (gaps.map D.str)), some (.str t), some (.str w), some (.str g), some (.bl tb)] S2 = .nx [some (.ref i), some ws, some (.lv (gaps.map D.str)), some (.str (t ++ pre)), some (.str w), some (.str g), some (.bl tb)] S3 ∧ Pool S3 i ∧ Fr S2 S3 i ∧ (pre = [] ∨ pre = g) ∧ (b = false → t ≠ [] → pre ≠ []) := by
    have put : ∀ S3, sSet 3 (eBin (oAdd (run (n + 1))) (eVar 3) (eVar 5)) [some (.ref i), some ws, some (.lv (gaps.map D.str)), some (.str t), some (.str w), some (.str g), some (.bl tb)] S3 = .nx [some (.ref i), some ws, some (.lv (gaps.map D.str)), some (.str (t ++ g)), some (.str w), some (.str g), some (.bl tb)] S3 := fun S3 => by
      simp only [sAsg_ev, eBin_ev, eVar_0, eVar_s, bind_ok', add_ss (show t.length + g.length ≤ 900000 by omega), gName_ev, List.set_cons_succ, List.set_cons_zero]
    have first : tAnd (tOf (eBin (oNe (run (n + 1))) (eVar 3) (eC (.str [])))) (tNot (tTru (eVar 6))) [some (.ref i), some ws, some (.lv (gaps.map D.str)), some (.str t), some (.str w), some (.str g), some (.bl tb)] S2 = .ok (!(t == []) && !tb) S2 := by
      have e1 : oNe (run (n + 1)) (.str t) (.str []) S2 = .ok (.bl (!(t == []))) S2 := neF_str ht (Txt.all rfl)
      simp only [tAnd_ev, tOf_ev, eBin_ev, eVar_0, eVar_s, eC_ev, bind_ok', e1]
      cases (t == [] : Bool) with
      | true => rfl
      | false => simp only [Bool.not_false, if_true, tNot_ev, tTru_ev, eVar_0, eVar_s, bind_ok', truD_bl, Bool.true_and]
    unfold tB3
    rw [sIf_ev, tOr_ev, first]
    cases hc : (!(t == []) && !tb) with
    | true =>
      refine ⟨g, S2, ?_, hp2, Fr.refl, .inr rfl, fun _ _ => g2⟩
      simp only [bind_ok', if_true, put]
    | false =>
      obtain ⟨c, S3, e3, hp3, f3⟩ := take0 (n := n) (w := 4) (σ := [some (.ref i), some ws, some (.lv (gaps.map D.str)), some (.str t), some (.str w), some (.str g), some (.bl tb)]) (fun S => eVar_0) hp2 (by omega) (by omega)
      have hn : b = false → t ≠ [] → False := fun h1 h2 => by
        rw [htb h1, beq_eq_false_iff_ne.mpr h2] at hc
        cases hc
      simp only [bind_ok', Bool.false_eq_true, if_false, tOf_ev, e3]
      cases c with
      | true => exact ⟨g, S3, by simp only [if_true, put], hp3, f3, .inr rfl, fun _ _ => g2⟩
      | false => exact ⟨[], S3, by simp only [Bool.false_eq_true, if_false, sNext_ev, List.append_nil], hp3, f3, .inl rfl, fun h1 h2 => (hn h1 h2).elim⟩
  have lp : pre.length ≤ 2 := by rcases hpre with rfl | rfl <;> simp_all
  have gp : Gap pre := by
    rcases hpre with rfl | rfl
    · exact fun c hc => absurd hc List.not_mem_nil
    · exact g1
  have x4 : tB4 (run (n + 1)) [some (.ref i), some ws, some (.lv (gaps.map D.str)), some (.str (t ++ pre)), some (.str w), some (.str g), some (.bl tb)] S3 = .nx [some (.ref i), some ws, some (.lv (gaps.map D.str)), some (.str (t ++ pre ++ w)), some (.str w), some (.str g), some (.bl tb)] S3 := by
    unfold tB4
    simp only [sAsg_ev, eBin_ev, eVar_0, eVar_s, bind_ok', add_ss (show (t ++ pre).length + w.length ≤ 900000 by rw [List.length_append]; omega), gName_ev, List.set_cons_succ, List.set_cons_zero]
  -- a blank behind
  obtain ⟨post, S4, x5, hp4, f4, hpost⟩ : ∃ post S4, tB5 (run (n + 1)) [some (.ref i), some ws, some (.lv (gaps.map D.str)), some (.str (t ++ pre ++ w)), some (.str w), some (.str g), some (.bl tb)] S3 = .nx [some (.ref i), some ws, some (.lv (gaps.map D.str)), some (.str (t ++ pre ++ w ++ post)), some (.str w), some (.str g), some (.bl tb)] S4 ∧ Pool S4 i ∧ Fr S3 S4 i ∧ (post = [] ∨ post = [32]) := by
    have put : ∀ (x : List Nat) S4, x.length ≤ 1 → oAdd (run (n + 1)) (.str (t ++ pre ++ w)) (.str x) S4 = .ok (.str (t ++ pre ++ w ++ x)) S4 := fun x S4 hx => add_ss (by rw [List.length_append, List.length_append]; omega)
    unfold tB5
    have hin : eBin (inTF true) (eVar 4) (eC (.str [40, 41])) [some (.ref i), some ws, some (.lv (gaps.map D.str)), some (.str (t ++ pre ++ w)), some (.str w), some (.str g), some (.bl tb)] S3 = .ok (.bl !b) S3 := by
      simp only [eBin_ev, eVar_0, eVar_s, eC_ev, bind_ok', in_oc, hb, Bool.true_xor]
    unfold sSet
    rw [sAsg_ev, eBin_ev]
    simp only [eVar_0, eVar_s, bind_ok', eIf_ev, tOr_ev, tOf_ev, hin]
    cases b with
    | false =>
      refine ⟨[], S3, ?_, hp3, Fr.refl, .inl rfl⟩
      simp only [Bool.not_false, if_true, bind_ok', eC_ev, put [] S3 (by simp), gName_ev, List.set_cons_succ, List.set_cons_zero]
    | true =>
      obtain ⟨c, S4, e4, hp4, f4⟩ := take0 (n := n) (w := 2) (σ := [some (.ref i), some ws, some (.lv (gaps.map D.str)), some (.str (t ++ pre ++ w)), some (.str w), some (.str g), some (.bl tb)]) (fun S => eVar_0) hp3 (by omega) (by omega)
      simp only [Bool.not_true, Bool.false_eq_true, if_false, e4, bind_ok']
      cases c with
      | true => exact ⟨[], S4, by simp only [if_true, eC_ev, bind_ok', put [] S4 (by simp), gName_ev, List.set_cons_succ, List.set_cons_zero], hp4, f4, .inl rfl⟩
      | false => exact ⟨[32], S4, by simp only [Bool.false_eq_true, if_false, eC_ev, bind_ok', put [32] S4 (by simp), gName_ev, List.set_cons_succ, List.set_cons_zero], hp4, f4, .inr rfl⟩
  refine ⟨pre, post, S4, some (.str g), some (.bl tb), gp, ?_, lp, ?_, hp0, hp4, (((f1.trans f2).trans f3).trans f4), ?_⟩
  · rcases hpost with rfl | rfl
    · exact fun c hc => absurd hc List.not_mem_nil
    · exact fun c hc => by simp at hc; exact .inl hc
  · rcases hpost with rfl | rfl <;> simp
  · rw [show t ++ (pre ++ (w ++ post)) = t ++ pre ++ w ++ post by simp]
    simp only [sSeq_ev, x1, x2, x3, x4, x5]
/-- _law_text -/
theorem text_ok {ws : List (List Nat)} (hw : ∀ w ∈ ws, w ∈ VOC ∨ w = wO ∨ w = wC) (hl : ws.length ≤ 2000) (hp : Pool S i) : (run (n + 2) 33 [.ref i, .lv (ws.map D.str)] S).sat (DrQ S i fun d => ∃ ps, d = .str (txtOf ps) ∧ ps.map Pc.w = ws ∧ (∀ p ∈ ps, PcOk p) ∧ Seps ps.tail) E := by
  rw [run_33]
  refine sat_fin ?_
  rw [m33, sat_seq, sat_par]
  have g0 : ∀ {σ : En} {S : Store}, eLv [eC (.str [32]), eC (.str [10]), eC (.str [32, 32])] σ S = .ok (.lv (gaps.map D.str)) S := rfl
  simp only [g0, sat_ok, eC_ev, List.set_cons_succ, List.set_cons_zero]
  rw [sat_seq]
  refine for_sat (ds := ws.map D.str) (S1 := S) (fun ds σ S2 => Pool S2 i ∧ Fr S S2 i ∧ ∃ ps rest o4 o5 o6, ds = rest.map D.str ∧ ps.map Pc.w ++ rest = ws ∧ (∀ p ∈ ps, PcOk p) ∧ Seps ps.tail ∧ σ = [some (.ref i), some (.lv (ws.map D.str)), some (.lv (gaps.map D.str)), some (.str (txtOf ps)), o4, o5, o6])
    (walk_list (d := .lv (ws.map D.str)) (by simp only [eVar_s, eVar_0]) rfl) (by rw [List.length_map]; omega) ⟨hp, Fr.refl, [], ws, none, none, none, rfl, rfl, fun p h => absurd h List.not_mem_nil, fun p h => absurd h List.not_mem_nil, rfl⟩ ?_ ?_
  · rintro d ds σ S2 ⟨hp2, f2, ps, rest, o4, o5, o6, e1, e2, h1, h2, rfl⟩
    cases rest with
    | nil => cases e1
    | cons w rest =>
      rw [List.map_cons] at e1
      obtain ⟨rfl, rfl⟩ := List.cons.inj e1
      simp only [gName_ev, sat_ok, List.set_cons_succ, List.set_cons_zero]
      have hw1 : w ∈ VOC ∨ w = wO ∨ w = wC := hw w (by rw [← e2]; simp)
      have hw8 : w.length ≤ 8 := by
        rcases hw1 with z | z | z
        · exact (voc_of z).ln
        · rw [z]; simp
        · rw [z]; simp
      obtain ⟨t1, t2⟩ := txtOf_len h1
      have pl : ps.length ≤ 2000 := by
        have := congrArg List.length e2
        rw [List.length_append, List.length_map, List.length_cons] at this
        omega
      obtain ⟨pre, post, S3, o5', o6', a1, a2, a3, a4, a5, hp3, f3, e⟩ := text_turn (n := n) (ws := .lv (ws.map D.str)) (o5 := o5) (o6 := o6) (b := subT w OC) hp2 rfl t2 (by omega) hw8
      rw [e, sat_nx]
      refine ⟨hp3, f2.trans f3, ps ++ [⟨pre, w, post⟩], rest, some (.str w), o5', o6', rfl, by rw [List.map_append, ← e2]; simp, fun p hp' => ?_, ?_, ?_⟩
      · rcases List.mem_append.mp hp' with z | z
        · exact h1 p z
        · rw [List.mem_singleton] at z
          subst z
          exact ⟨hw1, a1, a2, a3, a4⟩
      · cases ps with
        | nil => exact fun p hp' => absurd hp' List.not_mem_nil
        | cons q ps =>
          intro p hp' hv
          rcases List.mem_append.mp (show p ∈ ps ++ [⟨pre, w, post⟩] from hp') with z | z
          · exact h2 p z hv
          · rw [List.mem_singleton] at z
            subst z
            refine a5 (voc_of hv).no fun z => ?_
            have hq := h1 q (by simp)
            have : q.w = [] := by
              unfold txtOf at z
              simp at z
              exact z.2.1
            rcases hq.w with y | y | y
            · exact (voc_of y).ne this
            · rw [y] at this; cases this
            · rw [y] at this; cases this
      · rw [txtOf_app]
        congr 5
        simp [txtOf]
  · rintro σ S2 ⟨hp2, f2, ps, rest, o4, o5, o6, e1, e2, h1, h2, rfl⟩
    have hr : rest = [] := by
      cases rest with
      | nil => rfl
      | cons _ _ => cases e1
    subst hr
    simp only [sat_ret, eVar_s, eVar_0, sat_ok]
    exact ⟨⟨ps, rfl, by simpa using e2, h1, h2⟩, hp2, f2⟩
end
end L2.Mi.Pg

set_option Elab.async false
set_option linter.all false
set_option maxRecDepth 100000
set_option maxHeartbeats 1000000
namespace L2.Mi.Pg
open PySem
/-- 0: a condition, 1: joined by and, 2: one; 3, 4: what follows behind and, or -/
inductive Gr : Nat → Nat → Form → List (List Nat) → Form → Prop
  | any {d : Nat} : Gr 2 d .any [wANY] .any
  | atm {d k : Nat} {v : D} (h : FOk (.atm k v)) : Gr 2 d .any [KS.getD k [], vt v] (.atm k v)
  | nt {d : Nat} {ws : List (List Nat)} {F : Form} (h : Gr 2 d .any ws F) : Gr 2 (d + 1) .any (wNOT :: ws) (.nt F)
  | br {d : Nat} {ws : List (List Nat)} {F : Form} (h : Gr 0 d .any ws F) : Gr 2 (d + 1) .any (wO :: (ws ++ [wC])) F
  | both {d : Nat} {w0 ws : List (List Nat)} {F0 F : Form} (h : Gr 2 d .any w0 F0) (h2 : Gr 3 d F0 ws F) : Gr 1 d .any (w0 ++ ws) F
  | cond {d : Nat} {w0 ws : List (List Nat)} {F0 F : Form} (h : Gr 1 d .any w0 F0) (h2 : Gr 4 d F0 ws F) : Gr 0 d .any (w0 ++ ws) F
  | an0 {d : Nat} {F : Form} : Gr 3 d F [] F
  | an1 {d : Nat} {w1 ws : List (List Nat)} {F0 G F : Form} (h : Gr 2 d .any w1 G) (h2 : Gr 3 d (.an F0 G) ws F) : Gr 3 d F0 (wAND :: (w1 ++ ws)) F
  | or0 {d : Nat} {F : Form} : Gr 4 d F [] F
  | or1 {d : Nat} {w1 ws : List (List Nat)} {F0 G F : Form} (h : Gr 1 d .any w1 G) (h2 : Gr 4 d (.or F0 G) ws F) : Gr 4 d F0 (wOR :: (w1 ++ ws)) F
theorem Gr.up {k d : Nat} {F0 F : Form} {ws : List (List Nat)} (h : Gr k d F0 ws F) : ∀ {e : Nat}, d ≤ e → Gr k e F0 ws F := by
  induction h with
  | any => exact fun _ => .any
  | atm h => exact fun _ => .atm h
  | nt h ih =>
    intro e he
    obtain ⟨e, rfl⟩ : ∃ m, e = m + 1 := ⟨e - 1, by omega⟩
    exact .nt (ih (by omega))
  | br h ih =>
    intro e he
    obtain ⟨e, rfl⟩ : ∃ m, e = m + 1 := ⟨e - 1, by omega⟩
    exact .br (ih (by omega))
  | both h h2 i1 i2 => exact fun he => .both (i1 he) (i2 he)
  | cond h h2 i1 i2 => exact fun he => .cond (i1 he) (i2 he)
  | an0 => exact fun _ => .an0
  | an1 h h2 i1 i2 => exact fun he => .an1 (i1 he) (i2 he)
  | or0 => exact fun _ => .or0
  | or1 h h2 i1 i2 => exact fun he => .or1 (i1 he) (i2 he)
section
variable {d : Nat} {F G F0 : Form} {a b ws : List (List Nat)}
theorem Gr.to1 (h : Gr 2 d .any ws F) : Gr 1 d .any ws F := by
  have z := Gr.both h .an0
  rwa [List.append_nil] at z
theorem Gr.to0 (h : Gr 1 d .any ws F) : Gr 0 d .any ws F := by
  have z := Gr.cond h .or0
  rwa [List.append_nil] at z
theorem Gr.lift (h : Gr 2 d .any ws F) {r : Nat} (hr : r ≤ 2) : Gr r d .any ws F := by
  match r, hr with
  | 0, _ => exact h.to1.to0
  | 1, _ => exact h.to1
  | 2, _ => exact h
theorem Gr.snoc3 {k : Nat} {E : Form} (h : Gr k d E a F) : k = 3 → Gr 2 d .any b G → Gr 3 d E (a ++ wAND :: b) (.an F G) := by
  induction h with
  | @an0 d H =>
    intro _ hb
    have z := Gr.an1 hb (.an0 (F := .an H G))
    rwa [List.append_nil] at z
  | an1 h h2 i1 i2 =>
    intro _ hb
    have z := Gr.an1 h (i2 rfl hb)
    simpa using z
  | _ => intro e; cases e
theorem Gr.snoc4 {k : Nat} {E : Form} (h : Gr k d E a F) : k = 4 → Gr 1 d .any b G → Gr 4 d E (a ++ wOR :: b) (.or F G) := by
  induction h with
  | @or0 d H =>
    intro _ hb
    have z := Gr.or1 hb (.or0 (F := .or H G))
    rwa [List.append_nil] at z
  | or1 h h2 i1 i2 =>
    intro _ hb
    have z := Gr.or1 h (i2 rfl hb)
    simpa using z
  | _ => intro e; cases e
theorem Gr.and (h : Gr 1 d .any a F) (hb : Gr 2 d .any b G) : Gr 1 d .any (a ++ wAND :: b) (.an F G) := by
  cases h with
  | both h1 h2 =>
    have z := Gr.both h1 (h2.snoc3 rfl hb)
    simpa using z
theorem Gr.or (h : Gr 0 d .any a F) (hb : Gr 1 d .any b G) : Gr 0 d .any (a ++ wOR :: b) (.or F G) := by
  cases h with
  | cond h1 h2 =>
    have z := Gr.cond h1 (h2.snoc4 rfl hb)
    simpa using z
theorem Gr.brk (h : Gr 0 d .any ws F) : ∀ j, Gr 0 (d + j) .any (Pg.brk j ws) F
  | 0 => h
  | j + 1 => (Gr.br (h.brk j)).lift (by omega)
end
theorem wds_gr : ∀ (F : Form) (r : Nat), FOk F → r ≤ 2 → Gr r (dp F) .any (wds F r) F
  | .any, r, _, hr => (Gr.any).lift hr
  | .atm k v, r, h, hr => (Gr.atm h).lift hr
  | .nt f, r, h, hr => (Gr.nt (wds_gr f 2 h (by omega))).lift hr
  | .an f g, r, h, hr => by
    have h1 := (wds_gr f 1 h.1 (by omega)).up (e := max (dp f) (dp g)) (by omega)
    have h2 := (wds_gr g 2 h.2 (by omega)).up (e := max (dp f) (dp g)) (by omega)
    have h3 := h1.and h2
    unfold wds dp
    split
    · exact (Gr.br h3.to0).lift hr
    · match r, hr with
      | 0, _ => exact h3.to0.up (by omega)
      | 1, _ => exact h3.up (by omega)
      | 2, _ => omega
  | .or f g, r, h, hr => by
    have h1 := (wds_gr f 0 h.1 (by omega)).up (e := max (dp f) (dp g)) (by omega)
    have h2 := (wds_gr g 1 h.2 (by omega)).up (e := max (dp f) (dp g)) (by omega)
    have h3 := h1.or h2
    unfold wds dp
    split
    · exact (Gr.br h3).lift hr
    · match r, hr with
      | 0, _ => exact h3.up (by omega)
      | 1, _ => omega
      | 2, _ => omega
/-- all words are known -/
theorem Gr.voc {k d : Nat} {F0 F : Form} {ws : List (List Nat)} (h : Gr k d F0 ws F) : ∀ w ∈ ws, w ∈ VOC ∨ w = wO ∨ w = wC := by
  have vA : wANY ∈ VOC := by simp [VOC]
  have vN : wNOT ∈ VOC := by simp [VOC]
  have vD : wAND ∈ VOC := by simp [VOC]
  have vO : wOR ∈ VOC := by simp [VOC]
  have vK : ∀ k, k < 6 → KS.getD k [] ∈ VOC := fun k hk => by
    have : KS.getD k [] ∈ KS := by
      match k, hk with
      | 0, _ => simp
      | 1, _ => simp
      | 2, _ => simp
      | 3, _ => simp
      | 4, _ => simp
      | 5, _ => simp
    unfold VOC
    rw [List.mem_append, List.mem_append]
    exact .inl (.inr this)
  induction h with
  | any => intro w hw; rw [List.mem_singleton] at hw; subst hw; exact .inl vA
  | @atm d k v h =>
    intro w hw
    obtain ⟨hk, _, u, hu⟩ := h
    rcases List.mem_cons.mp hw with rfl | hw
    · exact .inl (vK k hk)
    · rw [List.mem_singleton] at hw
      subst hw
      refine .inl ?_
      rw [(str_at (S := ⟨[]⟩) hu).2]
      unfold VOC
      rw [List.mem_append]
      exact .inr (List.mem_map.mpr ⟨_, hu, rfl⟩)
  | nt h ih =>
    intro w hw
    rcases List.mem_cons.mp hw with rfl | hw
    · exact .inl vN
    · exact ih w hw
  | br h ih =>
    intro w hw
    rcases List.mem_cons.mp hw with rfl | hw
    · exact .inr (.inl rfl)
    · rcases List.mem_append.mp hw with hw | hw
      · exact ih w hw
      · rw [List.mem_singleton] at hw
        exact .inr (.inr hw)
  | both h h2 i1 i2 => exact fun w hw => (List.mem_append.mp hw).elim (i1 w) (i2 w)
  | cond h h2 i1 i2 => exact fun w hw => (List.mem_append.mp hw).elim (i1 w) (i2 w)
  | an0 => exact fun w hw => absurd hw List.not_mem_nil
  | or0 => exact fun w hw => absurd hw List.not_mem_nil
  | an1 h h2 i1 i2 =>
    intro w hw
    rcases List.mem_cons.mp hw with rfl | hw
    · exact .inl vD
    · exact (List.mem_append.mp hw).elim (i1 w) (i2 w)
  | or1 h h2 i1 i2 =>
    intro w hw
    rcases List.mem_cons.mp hw with rfl | hw
    · exact .inl vO
    · exact (List.mem_append.mp hw).elim (i1 w) (i2 w)
end L2.Mi.Pg

set_option Elab.async false
set_option linter.all false
set_option maxRecDepth 100000
set_option maxHeartbeats 1000000
namespace L2.Mi.Pg
open PySem
def rdO (q a d : Nat) : Ob := .ins 1 [(3, .ref q), (4, .int (a : Int)), (5, .int (d : Int))]
structure Rd (S : Store) (r q : Nat) (ts : List Tok) (a d : Nat) : Prop where
  hr : S.get r = some (rdO q a d)
  hq : S.get q = some (.lst (ts.map Tok.d))
  ne : r ≠ q
  tx : ∀ t ∈ ts, Txt t.k ∧ Txt t.w
/-- words stand at a -/
def Rst (ts : List Tok) (a : Nat) (ws : List (List Nat)) : Prop := ∀ j w, ws[j]? = some w → ∃ p, ts[a + j]? = some ⟨kd w, w, p⟩
theorem Rst.nil {ts : List Tok} {a : Nat} : Rst ts a [] := fun j w h => by simp at h
theorem Rst.app {ts : List Tok} {a : Nat} {x y : List (List Nat)} (h : Rst ts a (x ++ y)) : Rst ts a x ∧ Rst ts (a + x.length) y := by
  refine ⟨fun j w hj => h j w ?_, fun j w hj => ?_⟩
  · rw [List.getElem?_append_left (List.getElem?_eq_some_iff.mp hj).1]
    exact hj
  · obtain ⟨p, hp⟩ := h (x.length + j) w (by rw [List.getElem?_append_right (by omega), Nat.add_sub_cancel_left]; exact hj)
    exact ⟨p, by rw [show a + x.length + j = a + (x.length + j) by omega]; exact hp⟩
theorem Rst.cons {ts : List Tok} {a : Nat} {w : List Nat} {ws : List (List Nat)} (h : Rst ts a (w :: ws)) : (∃ p, ts[a]? = some ⟨kd w, w, p⟩) ∧ Rst ts (a + 1) ws := by
  refine ⟨h 0 w rfl, fun j x hj => ?_⟩
  obtain ⟨p, hp⟩ := h (j + 1) x hj
  exact ⟨p, by rw [show a + 1 + j = a + (j + 1) by omega]; exact hp⟩
theorem rst_of : ∀ {ws : List (List Nat)} {ts : List Tok}, TkW ws ts → Rst ts 0 ws ∧ ∃ p, ts[ws.length]? = some ⟨ENDW, [], p⟩
  | [], ts, ⟨p, e⟩ => by subst e; exact ⟨.nil, p, rfl⟩
  | w :: ws, ts, ⟨p, ts', e, h⟩ => by
    subst e
    obtain ⟨h1, p2, h2⟩ := rst_of h
    refine ⟨fun j x hj => ?_, p2, by simpa using h2⟩
    cases j with
    | zero => cases hj; exact ⟨p, rfl⟩
    | succ j =>
      obtain ⟨p3, h3⟩ := h1 j x (by simpa using hj)
      exact ⟨p3, by rw [Nat.zero_add] at h3 ⊢; simpa using h3⟩
/-- does accept take it -/
def acc (t : Tok) (w : List Nat) : Bool := [NAME, MARK].any (· == t.k) && t.w == w
section
variable {S : Store} {r q a d n : Nat} {ts : List Tok} {t : Tok} {call : Nat → FN} {σ : En} {E : Xn → Store → Prop}
theorem attr_fld {c fi : Nat} {fs : List (Nat × D)} {ad : ADisp} {v : D} (h : S.get r = some (.ins c fs)) (ha : ad c = some none) (hl : fs.lookup fi = some v) : attrF ad fi (.ref r) S = .ok v S := by
  unfold attrF
  simp only [h, ha, hl]
theorem meth_ev {c fi : Nat} {fs : List (Nat × D)} {ds : Disp} {g : FN} {mo : ME} {ma : MA} {S1 : Store} (h0 : mo σ S = .ok (.ref r) S1) (h : S1.get r = some (.ins c fs)) (ha : ds c = some g) (hl : fs.lookup fi = none) :
    eMeth ds fi mo ma σ S = (ma σ S1).bind fun xs S2 => g (.ref r :: xs) S2 := by
  unfold eMeth
  rw [h0, bind_ok']
  simp only [h, ha, hl]
theorem rd_meth {fi : Nat} {ds : Disp} {g : FN} {ma : MA} (H : Rd S r q ts a d) (ha : ds 1 = some g) (hl : ∀ k i d : D, [(3, k), (4, i), (5, d)].lookup fi = none) :
    eMeth ds fi (eVar 0) ma (some (.ref r) :: σ) S = (ma (some (.ref r) :: σ) S).bind fun xs S2 => g (.ref r :: xs) S2 := meth_ev eVar_0 H.hr ha (hl _ _ _)
theorem k_acc {ma : MA} (H : Rd S r q ts a d) : eMeth (me_accept call) 9 (eVar 0) ma (some (.ref r) :: σ) S = (ma (some (.ref r) :: σ) S).bind fun xs S2 => call 17 (.ref r :: xs) S2 := rd_meth H rfl fun _ _ _ => rfl
theorem k_con {ma : MA} (H : Rd S r q ts a d) : eMeth (me_read_condition call) 12 (eVar 0) ma (some (.ref r) :: σ) S = (ma (some (.ref r) :: σ) S).bind fun xs S2 => call 19 (.ref r :: xs) S2 := rd_meth H rfl fun _ _ _ => rfl
theorem k_bot {ma : MA} (H : Rd S r q ts a d) : eMeth (me_read_both call) 8 (eVar 0) ma (some (.ref r) :: σ) S = (ma (some (.ref r) :: σ) S).bind fun xs S2 => call 20 (.ref r :: xs) S2 := rd_meth H rfl fun _ _ _ => rfl
theorem k_one {ma : MA} (H : Rd S r q ts a d) : eMeth (me_read_one call) 10 (eVar 0) ma (some (.ref r) :: σ) S = (ma (some (.ref r) :: σ) S).bind fun xs S2 => call 21 (.ref r :: xs) S2 := rd_meth H rfl fun _ _ _ => rfl
theorem k_atm {ma : MA} (H : Rd S r q ts a d) : eMeth (me_read_atom call) 13 (eVar 0) ma (some (.ref r) :: σ) S = (ma (some (.ref r) :: σ) S).bind fun xs S2 => call 22 (.ref r :: xs) S2 := rd_meth H rfl fun _ _ _ => rfl
theorem k_val {ma : MA} (H : Rd S r q ts a d) : eMeth (me_read_value call) 14 (eVar 0) ma (some (.ref r) :: σ) S = (ma (some (.ref r) :: σ) S).bind fun xs S2 => call 23 (.ref r :: xs) S2 := rd_meth H rfl fun _ _ _ => rfl
/-- the token that stands there -/
theorem tok_ev (H : Rd S r q ts a d) (ht : ts[a]? = some t) : eBin itemF (eUn (attrF (at_tokens call) 3) (eVar 0)) (eUn (attrF (at_at call) 4) (eVar 0)) (some (.ref r) :: σ) S = .ok t.d S := by
  have e1 : attrF (at_tokens call) 3 (.ref r) S = .ok (.ref q) S := attr_fld H.hr rfl rfl
  have e2 : attrF (at_at call) 4 (.ref r) S = .ok (.int (a : Int)) S := attr_fld H.hr rfl rfl
  have e3 : itemF (.ref q) (.int (a : Int)) S = .ok t.d S := itemF_seq (seqAt_list (listAt_ref H.hq)) (atI_nat (by rw [List.getElem?_map, ht]; rfl))
  simp only [eBin_ev, eUn_ev, eVar_0, bind_ok', e1, e2, e3]
theorem gt3 {t : Tok} {i j l : Nat} : gTup [gName i, gName j, gName l] t.d σ S = .ok (((σ.set i (some (.str t.k))).set j (some (.str t.w))).set l (some (.int (t.p : Int)))) S := rfl
theorem fld_at {g : Int → Int → Int} {b : Nat} (H : Rd S r q ts a d) (hb : g (a : Int) 1 = (b : Int)) : sFaug g st_at 4 (eVar 0) (eC (.int 1)) (some (.ref r) :: σ) S = .nx (some (.ref r) :: σ) (S.set r (rdO q b d)) := by
  unfold sFaug augR
  rw [eVar_0, bind_ok']
  have hr := H.hr
  have e1 : fldInt st_at 4 (.ref r) S = some (r, 1, (a : Int)) := by
    unfold fldInt
    simp only [hr, rdO]
    rfl
  have e2 : fldPut 4 r 1 (.int (b : Int)) S = some (S.set r (rdO q b d)) := by
    unfold fldPut
    simp only [hr, rdO]
    rfl
  simp only [e1, eC_ev, bind_ok', hb, e2]
theorem fld_dep {g : Int → Int → Int} {b : Nat} (H : Rd S r q ts a d) (hb : g (d : Int) 1 = (b : Int)) : sFaug g st_depth 5 (eVar 0) (eC (.int 1)) (some (.ref r) :: σ) S = .nx (some (.ref r) :: σ) (S.set r (rdO q a b)) := by
  unfold sFaug augR
  rw [eVar_0, bind_ok']
  have hr := H.hr
  have e1 : fldInt st_depth 5 (.ref r) S = some (r, 1, (d : Int)) := by
    unfold fldInt
    simp only [hr, rdO]
    rfl
  have e2 : fldPut 5 r 1 (.int (b : Int)) S = some (S.set r (rdO q a b)) := by
    unfold fldPut
    simp only [hr, rdO]
    rfl
  simp only [e1, eC_ev, bind_ok', hb, e2]
theorem Rd.set {a2 d2 : Nat} (H : Rd S r q ts a d) : Rd (S.set r (rdO q a2 d2)) r q ts a2 d2 := ⟨Store.get_set_same' H.hr, by rw [Store.get_set_ne H.ne]; exact H.hq, H.ne, H.tx⟩
theorem Rd.push {o : Ob} (H : Rd S r q ts a d) : Rd (S.push o) r q ts a d := ⟨by rw [Store.get_push_lt (Store.get_lt H.hr)]; exact H.hr, by rw [Store.get_push_lt (Store.get_lt H.hq)]; exact H.hq, H.ne, H.tx⟩
/-- conditions stay while the reader goes on -/
theorem CondAt.fr {S2 : Store} (f : Fr S S2 r) {fs : List (Nat × D)} (hr : S.get r = some (.ins 1 fs)) : ∀ {c : Nat} {F : Form}, CondAt S c F → CondAt S2 c F := by
  have one : ∀ {c : Nat} {x : D}, S.get c = some (.ins 0 [(0, x)]) → S2.get c = some (.ins 0 [(0, x)]) := fun {c x} h => f.get h fun e => by
    subst e
    rw [hr] at h
    cases h
  intro c F
  induction F generalizing c with
  | any => exact fun h => one h
  | nt F ih => exact fun ⟨x, h, k⟩ => ⟨x, one h, ih k⟩
  | an F G i1 i2 => exact fun ⟨x, y, h, k, l⟩ => ⟨x, y, one h, i1 k, i2 l⟩
  | or F G i1 i2 => exact fun ⟨x, y, h, k, l⟩ => ⟨x, y, one h, i1 k, i2 l⟩
  | atm k v => exact fun h => one h
theorem CondAt.rd {S2 : Store} {c : Nat} {F : Form} (h : CondAt S c F) (H : Rd S r q ts a d) (f : Fr S S2 r) : CondAt S2 c F := h.fr f H.hr
theorem tNUMB : Txt NUMB := by unfold Txt; decide
theorem tEND : Txt ENDW := by unfold Txt; decide
/-- accept -/
theorem acc_ok {w : List Nat} (H : Rd S r q ts a d) (ht : ts[a]? = some t) (hw : Txt w) : run (n + 1) 17 [.ref r, .str w] S = .ok (.bl (acc t w)) (if acc t w then S.set r (rdO q (a + 1) d) else S) := by
  have htx := H.tx t (List.mem_of_getElem? ht)
  rw [run_17]
  unfold m_17
  have e1 : inF true (.str t.k) (.tup [.str NAME, .str MARK]) S = .ok (.bl !([NAME, MARK].any (· == t.k))) S := by
    rw [inF_strs (ks := [NAME, MARK]) rfl]
    rfl
  have e2 : oNe (run n) (.str t.w) (.str w) S = .ok (.bl !(t.w == w)) S := neF_str htx.2 hw
  simp only [sSeq_ev, sAsg_ev, tok_ev H ht, bind_ok', gt3, List.set_cons_succ, List.set_cons_zero, sIf_ev, tOr_ev, tOf_ev, eBin_ev, eVar_s, eVar_0, eTup_ev, aList_cons, aList_nil, eC_ev, e1]
  unfold acc
  cases [NAME, MARK].any (· == t.k) with
  | false => rfl
  | true =>
    simp only [Bool.not_true, Bool.false_eq_true, if_false, e2, bind_ok', Bool.true_and]
    cases t.w == w with
    | false => rfl
    | true =>
      simp only [Bool.not_true, Bool.false_eq_true, if_false, sNext_ev, fld_at (g := (· + ·)) (b := a + 1) H rfl, sRet_ev, eC_ev, if_true]
      rfl
/-- accept, asked in a test -/
theorem acc_t {w : List Nat} (H : Rd S r q ts a d) (ht : ts[a]? = some t) (hw : Txt w) : tTru (eMeth (me_accept (run (n + 1))) 9 (eVar 0) (aList [eC (.str w)])) (some (.ref r) :: σ) S = .ok (acc t w) (if acc t w then S.set r (rdO q (a + 1) d) else S) := by
  rw [tTru_ev, k_acc H]
  simp only [aList_cons, aList_nil, eC_ev, bind_ok', acc_ok (n := n) H ht hw, truD_bl]
theorem acc_no {w : List Nat} (H : Rd S r q ts a d) (ht : ts[a]? = some t) (hw : Txt w) (h : acc t w = false) : tTru (eMeth (me_accept (run (n + 1))) 9 (eVar 0) (aList [eC (.str w)])) (some (.ref r) :: σ) S = .ok false S := by
  rw [acc_t H ht hw, h]
  rfl
theorem acc_yes {w : List Nat} (H : Rd S r q ts a d) (ht : ts[a]? = some t) (hw : Txt w) (h : acc t w = true) : tTru (eMeth (me_accept (run (n + 1))) 9 (eVar 0) (aList [eC (.str w)])) (some (.ref r) :: σ) S = .ok true (S.set r (rdO q (a + 1) d)) := by
  rw [acc_t H ht hw, h]
  rfl
end
/-- words that accept takes -/
def PW : List (List Nat) := [wANY, wNOT, wAND, wOR, wO, wC] ++ KS
theorem kd_pw : ∀ w ∈ PW, [NAME, MARK].any (· == kd w) = true := by decide +kernel
theorem acc_same {w : List Nat} {p : Nat} (h : w ∈ PW) : acc ⟨kd w, w, p⟩ w = true := by
  unfold acc
  simp only [kd_pw w h, beq_self_eq_true, Bool.and_self]
theorem acc_other {k w x : List Nat} {p : Nat} (h : (w == x) = false) : acc ⟨k, w, p⟩ x = false := by
  unfold acc
  simp only [h, Bool.and_false]
end L2.Mi.Pg

set_option Elab.async false
set_option linter.all false
set_option maxRecDepth 100000
set_option maxHeartbeats 1000000
namespace L2.Mi.Pg
open PySem
abbrev NUMS : D := .kt [(.str [108, 101, 118, 101, 108]), (.str [97, 99, 99, 101, 115, 115]), (.str [111, 116, 104, 101, 114])]
def vT1 : MT := tOf (eBin (inF false) (eVar 1) (eC NUMS))
def vT2 (call : Nat → FN) : MT := tOr (tAnd (tOf (eBin (oEq call) (eVar 1) (eC (.str [97, 114, 114, 97, 121])))) (tOf (eBin (oNe call) (eVar 2) (eC (.str [110, 97, 109, 101]))))) (tAnd (tOf (eBin (kinF kdt_0 1000 false) (eVar 1) (eC (.fn 1000)))) (tOf (eBin (inF true) (eVar 3) (eBin (kixF kdt_0 1000) (eC (.fn 1000)) (eVar 1)))))
theorem m23 {call : Nat → FN} : m_23 call = sSeq (sAsg (eBin itemF (eUn (attrF (at_tokens call) 3) (eVar 0)) (eUn (attrF (at_at call) 4) (eVar 0))) (gTup [gName 2, gName 3, gName 4]))
    (sSeq (sIf vT1 (sSeq (sIf (tOf (eBin (oNe call) (eVar 2) (eC (.str [110, 117, 109, 98, 101, 114])))) (sDrop (eMeth (me_refuse call) 7 (eVar 0) (aList []))) (sNext))
    (sSeq (sIf (tOf (eBin gtI (eFn lenF (aList [eVar 3])) (eC (.int 150)))) (sRaise 3 11 (eC (.str [110, 117, 109, 98, 101, 114, 115]))) (sNext))
    (sSeq (sFaug (· + ·) st_at 4 (eVar 0) (eC (.int 1)))
    (sRet (eFn (fnOr intF intT) (aList [eVar 3])))))) (sNext))
    (sSeq (sIf (vT2 call) (sDrop (eMeth (me_refuse call) 7 (eVar 0) (aList []))) (sNext))
    (sSeq (sFaug (· + ·) st_at 4 (eVar 0) (eC (.int 1)))
    (sRet (eVar 3))))) := (rfl)
section
variable {S : Store} {r q a d n p k : Nat} {ts : List Tok} {t : Tok} {call : Nat → FN} {E : Xn → Store → Prop} {key u kx : List Nat} {v : D}
theorem v_num {i : Int} (H : Rd S r q ts a d) (ht : ts[a]? = some ⟨NUMB, u, p⟩) (h1 : vT1 [some (.ref r), some (.str key), some (.str NUMB), some (.str u), some (.int (p : Int))] S = .ok true S) (hl : u.length ≤ 150) (hi : ∀ S, fnOr intF intT [.str u] S = .ok (.int i) S) :
    run (n + 1) 23 [.ref r, .str key] S = .ok (.int i) (S.set r (rdO q (a + 1) d)) := by
  rw [run_23, m23]
  have e2 : oNe (run n) (.str NUMB) (.str [110, 117, 109, 98, 101, 114]) S = .ok (.bl (!(NUMB == NUMB))) S := neF_str tNUMB tNUMB
  simp only [sSeq_ev, sAsg_ev, tok_ev H ht, bind_ok', gt3, List.set_cons_succ, List.set_cons_zero, sIf_ev, h1, if_true, tOf_ev, eBin_ev, eVar_s, eVar_0, eC_ev, e2, beq_self_eq_true, Bool.not_true, Bool.false_eq_true, if_false, sNext_ev, eFn_ev, aList_cons, aList_nil, lenF_str (show u.length ≤ 900000 by omega), gtI_ev, decide_eq_false (show ¬ (150 : Int) < (u.length : Int) by omega), fld_at (g := (· + ·)) (b := a + 1) H rfl, sRet_ev, hi]
  rfl
theorem v_word (H : Rd S r q ts a d) (ht : ts[a]? = some ⟨kx, u, p⟩) (h1 : vT1 [some (.ref r), some (.str key), some (.str kx), some (.str u), some (.int (p : Int))] S = .ok false S) (h2 : vT2 (run n) [some (.ref r), some (.str key), some (.str kx), some (.str u), some (.int (p : Int))] S = .ok false S) :
    run (n + 1) 23 [.ref r, .str key] S = .ok (.str u) (S.set r (rdO q (a + 1) d)) := by
  rw [run_23, m23]
  simp only [sSeq_ev, sAsg_ev, tok_ev H ht, bind_ok', gt3, List.set_cons_succ, List.set_cons_zero, sIf_ev, h1, h2, Bool.false_eq_true, if_false, sNext_ev, fld_at (g := (· + ·)) (b := a + 1) H rfl, sRet_ev, eVar_s, eVar_0]
  rfl
theorem val_ok (H : Rd S r q ts a d) (hat : FOk (.atm k v)) (ht : ts[a]? = some ⟨kd (vt v), vt v, p⟩) : run (n + 1) 23 [.ref r, .str (KS.getD k [])] S = .ok v (S.set r (rdO q (a + 1) d)) := by
  obtain ⟨_, _, u, h⟩ := hat
  unfold ATS at h
  simp only [List.mem_append, List.mem_flatMap, List.mem_map, List.mem_cons, List.not_mem_nil, or_false] at h
  rcases h with ((⟨w, h, e⟩ | ⟨k', hk, m, hm, e⟩) | ⟨w, h, e⟩) | ⟨w, h, e⟩
  · obtain ⟨e0, e⟩ := Prod.mk.inj e
    obtain ⟨e1, e2⟩ := Prod.mk.inj e
    subst e0 e1
    rcases h with rfl | rfl | rfl | rfl | rfl <;> exact v_word (kx := NAME) H ht (by kernel_rfl) (by kernel_rfl)
  · obtain ⟨e0, e⟩ := Prod.mk.inj e
    obtain ⟨e1, e2⟩ := Prod.mk.inj e
    subst e0 e1
    rcases hm with rfl | rfl | rfl | rfl | rfl <;> rcases hk with rfl | rfl | rfl <;> exact v_num H ht (by kernel_rfl) (by simp [vt]) (fun S => by kernel_rfl)
  · obtain ⟨e0, e⟩ := Prod.mk.inj e
    obtain ⟨e1, e2⟩ := Prod.mk.inj e
    subst e0 e1
    rcases h with rfl | rfl <;> exact v_word (kx := NAME) H ht (by kernel_rfl) (by kernel_rfl)
  · obtain ⟨e0, e⟩ := Prod.mk.inj e
    obtain ⟨e1, e2⟩ := Prod.mk.inj e
    subst e0 e1
    rcases h with rfl | rfl <;> exact v_word (kx := MARK) H ht (by kernel_rfl) (by kernel_rfl)
/-- what the reader leaves -/
def RQ (S : Store) (r q : Nat) (ts : List Tok) (b d : Nat) (F : Form) : D → Store → Prop := fun v S2 => ∃ c, v = .ref c ∧ CondAt S2 c F ∧ Rd S2 r q ts b d ∧ Fr S S2 r
theorem acc_v {w : List Nat} {o : Option D} (H : Rd S r q ts a d) (ht : ts[a]? = some t) (hw : Txt w) : tTru (eMeth (me_accept (run (n + 1))) 9 (eVar 0) (aList [eVar 1])) [some (.ref r), some (.str w)] S = .ok (acc t w) (if acc t w then S.set r (rdO q (a + 1) d) else S) := by
  rw [tTru_ev, k_acc H]
  simp only [aList_cons, aList_nil, eVar_s, eVar_0, bind_ok', acc_ok (n := n) H ht hw, truD_bl]
theorem atm_any (H : Rd S r q ts a d) (ht : ts[a]? = some ⟨kd wANY, wANY, p⟩) : (run (n + 3) 22 [.ref r] S).sat (RQ S r q ts (a + 1) d .any) E := by
  rw [run_22]
  refine sat_fin ?_
  unfold m_22
  rw [sat_seq, sat_if, acc_yes (n := n + 1) H ht tAny (acc_same (by simp [PW]))]
  simp only [sat_ok, if_true, sat_ret, eFn_ev, aList_cons, aList_nil, eTup_ev, eC_ev, bind_ok', make_ok (n := n + 1)]
  exact ⟨_, rfl, Store.get_push_same, H.set.push, Fr.set.trans Fr.push⟩
def aBody (call : Nat → FN) : MS := sIf (tTru (eMeth (me_accept call) 9 (eVar 0) (aList [eVar 1]))) (sRet (eFn (makeW 0 (call 7)) (aList [eTup [eVar 1, eMeth (me_read_value call) 14 (eVar 0) (aList [eVar 1])]]))) (sNext)
theorem m22 {call : Nat → FN} : m_22 call = sSeq (sIf (tTru (eMeth (me_accept call) 9 (eVar 0) (aList [eC (.str wANY)]))) (sRet (eFn (makeW 0 (call 7)) (aList [eTup [eC (.str wANY)]]))) (sNext))
    (sSeq (sFor (iOr (iSeq (eC (.kt (KS.map D.str)))) (iTxt (eC (.kt (KS.map D.str))))) (gName 1) (aBody call) 100000) (sDrop (eMeth (me_refuse call) 7 (eVar 0) (aList [])))) := (rfl)
theorem ks_ne : ∀ i, i < 6 → ∀ j, j < 6 → i ≠ j → (KS.getD i [] == KS.getD j []) = false := by decide
theorem ks_tx {k : Nat} (h : k < 6) : Txt (KS.getD k []) := (key_no h).1
theorem ks_pw : ∀ k, k < 6 → KS.getD k [] ∈ PW := by decide
theorem atm_ok {p2 : Nat} (H : Rd S r q ts a d) (hat : FOk (.atm k v)) (ht : ts[a]? = some ⟨kd (KS.getD k []), KS.getD k [], p⟩) (ht2 : ts[a + 1]? = some ⟨kd (vt v), vt v, p2⟩) : (run (n + 3) 22 [.ref r] S).sat (RQ S r q ts (a + 2) d (.atm k v)) E := by
  have hk := hat.1
  rw [run_22]
  refine sat_fin ?_
  rw [m22, sat_seq, sat_if, acc_no (n := n + 1) H ht tAny (acc_other (key_no hk).2.1)]
  simp only [sat_ok, Bool.false_eq_true, if_false, sat_next]
  rw [sat_seq]
  refine for_sat (ds := KS.map D.str) (S1 := S) (fun ds σ S2 => S2 = S ∧ ∃ j o, j ≤ k ∧ ds = (KS.map D.str).drop j ∧ σ = [some (.ref r), o]) (walk_list (d := .kt (KS.map D.str)) (by simp only [eC_ev]) rfl) (by simp) ⟨rfl, 0, none, by omega, rfl, rfl⟩ ?_ ?_
  · rintro x ds σ S2 ⟨rfl, j, o, hj, e, rfl⟩
    have hj6 : j < (KS.map D.str).length := by simp; omega
    rw [List.drop_eq_getElem_cons hj6] at e
    obtain ⟨e1, e2⟩ := List.cons.inj e
    have ex : x = .str (KS.getD j []) := by
      rw [e1, List.getElem_map, List.getD_eq_getElem?_getD, List.getElem?_eq_getElem (by simpa using hj6)]
      rfl
    subst ex
    simp only [gName_ev, sat_ok, List.set_cons_succ, List.set_cons_zero]
    unfold aBody
    rw [sat_if, acc_v (n := n + 1) (o := none) H ht (ks_tx (by omega))]
    by_cases hjk : j = k
    · subst hjk
      rw [acc_same (ks_pw j hk)]
      simp only [if_true, sat_ok, sat_ret]
      have H2 : Rd (S2.set r (rdO q (a + 1) d)) r q ts (a + 1) d := H.set
      simp only [eFn_ev, aList_cons, aList_nil, eTup_ev, eVar_s, eVar_0, bind_ok', k_val H2, val_ok (n := n + 1) H2 hat ht2, make_ok (n := n + 1), sat_ok]
      exact ⟨_, rfl, Store.get_push_same, H2.set.push, (Fr.set.trans Fr.set).trans Fr.push⟩
    · rw [acc_other (ks_ne k hk j (by omega) (fun z => hjk z.symm))]
      simp only [Bool.false_eq_true, if_false, sat_ok, sat_next]
      exact ⟨trivial, j + 1, _, by omega, e2, rfl⟩
  · rintro σ S2 ⟨rfl, j, o, hj, e, rfl⟩
    have := congrArg List.length e
    simp at this
    omega
end
end L2.Mi.Pg

set_option Elab.async false
set_option linter.all false
set_option maxRecDepth 100000
set_option maxHeartbeats 1000000
namespace L2.Mi.Pg
open PySem
theorem while_one {t : MT} {b : MS} {n : Nat} {σ : En} {S S1 : Store} {w : Wt} (ht : t σ S = .ok true S1) (hb : (b σ S1).sat ⟨fun σ2 S2 => (sWhile t b n σ2 S2).sat w, w.r, w.e, w.n, fun σ2 S2 => (sWhile t b n σ2 S2).sat w⟩) : (sWhile t b (n + 1) σ S).sat w := by
  rw [while_step, ht]
  simp only
  cases q : b σ S1 with
  | nx σ2 S2 => rw [q] at hb; exact hb
  | ct σ2 S2 => rw [q] at hb; exact hb
  | bk σ2 S2 => rw [q] at hb; exact hb
  | rt d S2 => rw [q] at hb; exact hb
  | exc x σ2 S2 => rw [q] at hb; exact hb
  | bad => rw [q] at hb; exact hb.elim
theorem while_stop {t : MT} {b : MS} {n : Nat} {σ : En} {S S1 : Store} {w : Wt} (ht : t σ S = .ok false S1) (h : w.n σ S1) : (sWhile t b (n + 1) σ S).sat w := by
  rw [while_step, ht]
  exact h
def fol (ts : List Tok) (b : Nat) (w : List Nat) : Prop := ∃ t, ts[b]? = some t ∧ acc t w = false
def aT (call : Nat → FN) : MT := tTru (eMeth (me_accept call) 9 (eVar 0) (aList [eC (.str wAND)]))
def aB (call : Nat → FN) : MS := sSet 1 (eBin (oBitAnd call) (eVar 1) (eMeth (me_read_one call) 10 (eVar 0) (aList [])))
def oT (call : Nat → FN) : MT := tTru (eMeth (me_accept call) 9 (eVar 0) (aList [eC (.str wOR)]))
def oB (call : Nat → FN) : MS := sSet 1 (eBin (oBitOr call) (eVar 1) (eMeth (me_read_both call) 8 (eVar 0) (aList [])))
theorem m20 {call : Nat → FN} : m_20 call = sSeq (sSet 1 (eMeth (me_read_one call) 10 (eVar 0) (aList []))) (sSeq (sWhile (aT call) (aB call) 100000) (sRet (eVar 1))) := (rfl)
theorem m19 {call : Nat → FN} : m_19 call = sSeq (sSet 1 (eMeth (me_read_both call) 8 (eVar 0) (aList []))) (sSeq (sWhile (oT call) (oB call) 100000) (sRet (eVar 1))) := (rfl)
def oIf (call : Nat → FN) : MS := sIf (tTru (eMeth (me_accept call) 9 (eVar 0) (aList [eC (.str wNOT)]))) (sSet 1 (eUn (oInv call) (eMeth (me_read_one call) 10 (eVar 0) (aList [])))) (sIf (tTru (eMeth (me_accept call) 9 (eVar 0) (aList [eC (.str wO)]))) (sSeq (sSet 1 (eMeth (me_read_condition call) 12 (eVar 0) (aList [])))
    (sIf (tNot (tTru (eMeth (me_accept call) 9 (eVar 0) (aList [eC (.str wC)])))) (sDrop (eMeth (me_refuse call) 7 (eVar 0) (aList []))) (sNext))) (sSet 1 (eMeth (me_read_atom call) 13 (eVar 0) (aList []))))
theorem m21 {call : Nat → FN} : m_21 call = sSeq (sIf (tOf (eBin gtI (eUn (attrF (at_depth call) 5) (eVar 0)) (eC (.int 30)))) (sRaise 3 11 (eC (.str [110, 101, 115, 116, 105, 110, 103]))) (sNext))
    (sSeq (sFaug (· + ·) st_depth 5 (eVar 0) (eC (.int 1))) (sSeq (oIf call) (sSeq (sFaug (· - ·) st_depth 5 (eVar 0) (eC (.int 1))) (sRet (eVar 1))))) := (rfl)
section
variable {S : Store} {r q a b d n p k : Nat} {ts : List Tok} {t : Tok} {E : Xn → Store → Prop} {F : Form}
/-- what the middle of read_one leaves -/
def MidW (S : Store) (r q : Nat) (ts : List Tok) (b d : Nat) (F : Form) (E : Xn → Store → Prop) : Wt := ⟨fun σ S2 => ∃ c, σ = [some (.ref r), some (.ref c)] ∧ CondAt S2 c F ∧ Rd S2 r q ts b (d + 1) ∧ Fr S S2 r, fun _ _ => False, E, fun _ _ => False, fun _ _ => False⟩
theorem one_frame (H : Rd S r q ts a d) (hd : d ≤ 30) (h : (oIf (run n) [some (.ref r), none] (S.set r (rdO q a (d + 1)))).sat (MidW S r q ts b d F E)) : (run (n + 1) 21 [.ref r] S).sat (RQ S r q ts b d F) E := by
  rw [run_21]
  refine sat_fin ?_
  rw [m21, sat_seq, sat_if]
  have e1 : attrF (at_depth (run n)) 5 (.ref r) S = .ok (.int (d : Int)) S := attr_fld H.hr rfl rfl
  simp only [tOf_ev, eBin_ev, eUn_ev, eVar_0, eC_ev, bind_ok', e1, gtI_ev, decide_eq_false (show ¬ (30 : Int) < (d : Int) by omega), sat_ok, Bool.false_eq_true, if_false, sat_next]
  rw [sat_seq, fld_dep (g := (· + ·)) (b := d + 1) H rfl, sat_nx]
  dsimp only
  rw [sat_seq]
  refine h.imp (fun σ S2 ⟨c, hσ, hc, H2, f2⟩ => ?_) (fun _ _ h => h.elim) (fun _ _ h => h) (fun _ _ h => h.elim) fun _ _ h => h.elim
  subst hσ
  dsimp only
  rw [sat_seq, fld_dep (g := (· - ·)) (b := d) H2 (by omega), sat_nx]
  simp only [sat_ret, eVar_s, eVar_0, sat_ok]
  exact ⟨c, rfl, hc.rd H2 Fr.set, H2.set, f2.trans Fr.set⟩
/-- read_atom in it -/
theorem one_atom {w : List Nat} (H : Rd S r q ts a d) (hd : d ≤ 30) (ht : ts[a]? = some ⟨kd w, w, p⟩) (n1 : (w == wNOT) = false) (n2 : (w == wO) = false) (h : ∀ S1, Rd S1 r q ts a (d + 1) → (run (n + 3) 22 [.ref r] S1).sat (RQ S1 r q ts b (d + 1) F) E) : (run (n + 4) 21 [.ref r] S).sat (RQ S r q ts b d F) E := by
  have H1 : Rd (S.set r (rdO q a (d + 1))) r q ts a (d + 1) := H.set
  refine one_frame H hd ?_
  unfold oIf
  rw [sat_if, acc_no (n := n + 2) H1 ht tNot' (acc_other n1)]
  simp only [sat_ok, Bool.false_eq_true, if_false]
  rw [sat_if, acc_no (n := n + 2) H1 ht (Txt.all rfl) (acc_other n2)]
  simp only [sat_ok, Bool.false_eq_true, if_false, sat_set, k_atm H1, aList_nil, bind_ok', List.set_cons_succ, List.set_cons_zero]
  refine (h _ H1).imp (fun v S2 ⟨c, hv, hc, H2, f2⟩ => ?_) fun _ _ h => h
  subst hv
  exact ⟨c, rfl, hc, H2, Fr.set.trans f2⟩
end
/-- what is shown of each rule -/
def PP : Nat → Nat → Form → List (List Nat) → Form → Prop
  | 0, d, _, ws, F => ∀ (E : Xn → Store → Prop) (n : Nat) (S : Store) (r q : Nat) (ts : List Tok) (a e : Nat), Rd S r q ts a e → Rst ts a ws → fol ts (a + ws.length) wAND → fol ts (a + ws.length) wOR → ws.length < 90000 → e + d ≤ 30 → 3 * d + 8 ≤ n → (run n 19 [.ref r] S).sat (RQ S r q ts (a + ws.length) e F) E
  | 1, d, _, ws, F => ∀ (E : Xn → Store → Prop) (n : Nat) (S : Store) (r q : Nat) (ts : List Tok) (a e : Nat), Rd S r q ts a e → Rst ts a ws → fol ts (a + ws.length) wAND → ws.length < 90000 → e + d ≤ 30 → 3 * d + 7 ≤ n → (run n 20 [.ref r] S).sat (RQ S r q ts (a + ws.length) e F) E
  | 2, d, _, ws, F => ∀ (E : Xn → Store → Prop) (n : Nat) (S : Store) (r q : Nat) (ts : List Tok) (a e : Nat), Rd S r q ts a e → Rst ts a ws → ws.length < 90000 → e + d ≤ 30 → 3 * d + 6 ≤ n → (run n 21 [.ref r] S).sat (RQ S r q ts (a + ws.length) e F) E
  | 3, d, F0, ws, F => ∀ (n : Nat) (S : Store) (r q : Nat) (ts : List Tok) (a e c fuel : Nat) (W : Wt), Rd S r q ts a e → CondAt S c F0 → Rst ts a ws → fol ts (a + ws.length) wAND → ws.length < fuel → ws.length < 90000 → e + d ≤ 30 → 3 * d + 6 ≤ n →
      (∀ S2 c2, CondAt S2 c2 F → Rd S2 r q ts (a + ws.length) e → Fr S S2 r → W.n [some (.ref r), some (.ref c2)] S2) → (sWhile (aT (run n)) (aB (run n)) fuel [some (.ref r), some (.ref c)] S).sat W
  | _, d, F0, ws, F => ∀ (n : Nat) (S : Store) (r q : Nat) (ts : List Tok) (a e c fuel : Nat) (W : Wt), Rd S r q ts a e → CondAt S c F0 → Rst ts a ws → fol ts (a + ws.length) wAND → fol ts (a + ws.length) wOR → ws.length < fuel → ws.length < 90000 → e + d ≤ 30 → 3 * d + 7 ≤ n →
      (∀ S2 c2, CondAt S2 c2 F → Rd S2 r q ts (a + ws.length) e → Fr S S2 r → W.n [some (.ref r), some (.ref c2)] S2) → (sWhile (oT (run n)) (oB (run n)) fuel [some (.ref r), some (.ref c)] S).sat W
theorem or_head {d : Nat} {F0 F : Form} {ws : List (List Nat)} (h : Gr 4 d F0 ws F) : ws = [] ∨ ∃ r, ws = wOR :: r := by
  cases h with
  | or0 => exact .inl rfl
  | or1 h h2 => exact .inr ⟨_, rfl⟩
/-- ahead of a chain of or's no and stands -/
theorem fol_or {d : Nat} {F0 F : Form} {ws : List (List Nat)} {ts : List Tok} {a : Nat} (h : Gr 4 d F0 ws F) (hr : Rst ts a ws) (hf : fol ts (a + ws.length) wAND) : fol ts a wAND := by
  rcases or_head h with rfl | ⟨r, rfl⟩
  · exact hf
  · obtain ⟨⟨p, hp⟩, _⟩ := hr.cons
    exact ⟨_, hp, acc_other rfl⟩
theorem kw_o : ∀ k, k < 6 → (KS.getD k [] == wO) = false := by decide
theorem parse_ok {k d : Nat} {F0 F : Form} {ws : List (List Nat)} (h : Gr k d F0 ws F) : PP k d F0 ws F := by
  induction h with
  | @any d =>
    intro E n S r q ts a e H hr hl hd hn
    obtain ⟨m, rfl⟩ : ∃ m, n = m + 4 := ⟨n - 4, by omega⟩
    obtain ⟨⟨p, hp⟩, _⟩ := hr.cons
    exact one_atom H (by omega) hp rfl rfl fun S1 H1 => atm_any H1 hp
  | @atm d k v h =>
    intro E n S r q ts a e H hr hl hd hn
    obtain ⟨m, rfl⟩ : ∃ m, n = m + 4 := ⟨n - 4, by omega⟩
    obtain ⟨⟨p, hp⟩, hr2⟩ := hr.cons
    obtain ⟨⟨p2, hp2⟩, _⟩ := hr2.cons
    exact one_atom H (by omega) hp (key_no h.1).2.2.1 (kw_o k h.1) fun S1 H1 => atm_ok H1 h hp hp2
  | @nt d ws F h ih =>
    intro E n S r q ts a e H hr hl hd hn
    obtain ⟨m, rfl⟩ : ∃ m, n = m + 3 := ⟨n - 3, by omega⟩
    obtain ⟨⟨p, hp⟩, hr2⟩ := hr.cons
    rw [List.length_cons] at hl ⊢
    have H1 : Rd (S.set r (rdO q a (e + 1))) r q ts a (e + 1) := H.set
    refine one_frame H (by omega) ?_
    unfold oIf
    rw [sat_if, acc_yes (n := m + 1) H1 hp tNot' (acc_same (by simp [PW]))]
    simp only [sat_ok, if_true]
    have H2 : Rd ((S.set r (rdO q a (e + 1))).set r (rdO q (a + 1) (e + 1))) r q ts (a + 1) (e + 1) := H1.set
    simp only [sat_set, eUn_ev, k_one H2, aList_nil, bind_ok', sat_bind, List.set_cons_succ, List.set_cons_zero]
    refine (ih E (m + 2) _ r q ts (a + 1) (e + 1) H2 hr2 (by omega) (by omega) (by omega)).imp (fun v S3 ⟨c, hv, hc, H3, f3⟩ => ?_) fun _ _ h => h
    subst hv
    obtain ⟨x, hx⟩ := hc.ins
    rw [inv_ok hx, sat_ok]
    refine ⟨_, rfl, ⟨c, Store.get_push_same, hc.ext Ext.push⟩, ?_, ((Fr.set.trans Fr.set).trans f3).trans Fr.push⟩
    rw [show a + (ws.length + 1) = a + 1 + ws.length by omega]
    exact H3.push
  | @br d ws F h ih =>
    intro E n S r q ts a e H hr hl hd hn
    obtain ⟨m, rfl⟩ : ∃ m, n = m + 3 := ⟨n - 3, by omega⟩
    obtain ⟨⟨p, hp⟩, hr2⟩ := hr.cons
    obtain ⟨hr3, hr4⟩ := hr2.app
    obtain ⟨⟨p2, hp2⟩, _⟩ := hr4.cons
    simp only [List.length_cons, List.length_append, List.length_nil] at hl ⊢
    have H1 : Rd (S.set r (rdO q a (e + 1))) r q ts a (e + 1) := H.set
    refine one_frame H (by omega) ?_
    unfold oIf
    rw [sat_if, acc_no (n := m + 1) H1 hp tNot' (acc_other rfl)]
    simp only [sat_ok, Bool.false_eq_true, if_false]
    rw [sat_if, acc_yes (n := m + 1) H1 hp (Txt.all rfl) (acc_same (by simp [PW]))]
    simp only [sat_ok, if_true]
    have H2 : Rd ((S.set r (rdO q a (e + 1))).set r (rdO q (a + 1) (e + 1))) r q ts (a + 1) (e + 1) := H1.set
    rw [sat_seq]
    simp only [sat_set, k_con H2, aList_nil, bind_ok', List.set_cons_succ, List.set_cons_zero]
    refine (ih E (m + 2) _ r q ts (a + 1) (e + 1) H2 hr3 ⟨_, hp2, acc_other rfl⟩ ⟨_, hp2, acc_other rfl⟩ (by omega) (by omega) (by omega)).imp (fun v S3 ⟨c, hv, hc, H3, f3⟩ => ?_) fun _ _ h => h
    subst hv
    rw [sat_if, tNot_ev, acc_yes (n := m + 1) H3 hp2 (Txt.all rfl) (acc_same (by simp [PW]))]
    simp only [bind_ok', Bool.not_true, sat_ok, Bool.false_eq_true, if_false, sat_next]
    refine ⟨c, rfl, hc.rd H3 Fr.set, ?_, ((Fr.set.trans Fr.set).trans f3).trans Fr.set⟩
    rw [show a + (ws.length + (0 + 1) + 1) = a + 1 + ws.length + 1 by omega]
    exact H3.set
  | @both d w0 ws F0 F h h2 i1 i2 =>
    intro E n S r q ts a e H hr hf hl hd hn
    obtain ⟨m, rfl⟩ : ∃ m, n = m + 1 := ⟨n - 1, by omega⟩
    obtain ⟨hr1, hr2⟩ := hr.app
    rw [List.length_append] at hl hf ⊢
    rw [run_20]
    refine sat_fin ?_
    rw [m20, sat_seq]
    simp only [sat_set, k_one H, aList_nil, bind_ok', List.set_cons_succ, List.set_cons_zero]
    refine (i1 E m S r q ts a e H hr1 (by omega) hd (by omega)).imp (fun v S2 ⟨c, hv, hc, H2, f2⟩ => ?_) fun _ _ h => h
    subst hv
    rw [sat_seq]
    refine i2 m S2 r q ts (a + w0.length) e c 100000 _ H2 hc hr2 (by rw [Nat.add_assoc]; exact hf) (by omega) (by omega) hd (by omega) fun S3 c2 hc2 H3 f3 => ?_
    simp only [sat_ret, eVar_s, eVar_0, sat_ok]
    rw [Nat.add_assoc] at H3
    exact ⟨c2, rfl, hc2, H3, f2.trans f3⟩
  | @cond d w0 ws F0 F h h2 i1 i2 =>
    intro E n S r q ts a e H hr hf hf2 hl hd hn
    obtain ⟨m, rfl⟩ : ∃ m, n = m + 1 := ⟨n - 1, by omega⟩
    obtain ⟨hr1, hr2⟩ := hr.app
    rw [List.length_append] at hl hf hf2 ⊢
    rw [← Nat.add_assoc] at hf hf2 ⊢
    rw [run_19]
    refine sat_fin ?_
    rw [m19, sat_seq]
    simp only [sat_set, k_bot H, aList_nil, bind_ok', List.set_cons_succ, List.set_cons_zero]
    refine (i1 E m S r q ts a e H hr1 (fol_or h2 hr2 hf) (by omega) hd (by omega)).imp (fun v S2 ⟨c, hv, hc, H2, f2⟩ => ?_) fun _ _ h => h
    subst hv
    rw [sat_seq]
    refine i2 m S2 r q ts (a + w0.length) e c 100000 _ H2 hc hr2 hf hf2 (by omega) (by omega) hd (by omega) fun S3 c2 hc2 H3 f3 => ?_
    simp only [sat_ret, eVar_s, eVar_0, sat_ok]
    exact ⟨c2, rfl, hc2, H3, f2.trans f3⟩
  | @an0 d F =>
    intro n S r q ts a e c fuel W H hc hr hf hfu hl hd hn hW
    obtain ⟨fuel, rfl⟩ : ∃ m, fuel = m + 1 := ⟨fuel - 1, by simp at hfu; omega⟩
    obtain ⟨m, rfl⟩ : ∃ m, n = m + 1 := ⟨n - 1, by omega⟩
    obtain ⟨t, ht, hz⟩ := hf
    exact while_stop (acc_no H ht tAnd' hz) (hW S c hc H Fr.refl)
  | @an1 d w1 ws F0 G F h h2 i1 i2 =>
    intro n S r q ts a e c fuel W H hc hr hf hfu hl hd hn hW
    simp only [List.length_cons, List.length_append] at hfu hl hf hW
    obtain ⟨fuel, rfl⟩ : ∃ m, fuel = m + 1 := ⟨fuel - 1, by omega⟩
    obtain ⟨m, rfl⟩ : ∃ m, n = m + 2 := ⟨n - 2, by omega⟩
    obtain ⟨⟨p, hp⟩, hr2⟩ := hr.cons
    obtain ⟨hr3, hr4⟩ := hr2.app
    refine while_one (acc_yes (n := m + 1) H hp tAnd' (acc_same (by simp [PW]))) ?_
    have H1 : Rd (S.set r (rdO q (a + 1) e)) r q ts (a + 1) e := H.set
    have hc1 : CondAt (S.set r (rdO q (a + 1) e)) c F0 := hc.rd H Fr.set
    unfold aB
    simp only [sat_set, eBin_ev, eVar_s, eVar_0, bind_ok', k_one H1, aList_nil, sat_bind, List.set_cons_succ, List.set_cons_zero]
    refine (i1 W.e (m + 2) _ r q ts (a + 1) e H1 hr3 (by omega) hd (by omega)).imp (fun v S2 ⟨c1, hv, hc2, H2, f2⟩ => ?_) fun _ _ h => h
    subst hv
    have hc3 := hc1.rd H1 f2
    obtain ⟨x, hx⟩ := hc3.ins
    obtain ⟨y, hy⟩ := hc2.ins
    rw [and_ok hx hy, sat_ok]
    refine i2 (m + 2) _ r q ts (a + 1 + w1.length) e _ fuel W H2.push ⟨c, c1, Store.get_push_same, hc3.ext Ext.push, hc2.ext Ext.push⟩ hr4 ?_ (by omega) (by omega) hd (by omega) fun S3 c3 h3 H3 f3 => ?_
    · rw [show a + 1 + w1.length + ws.length = a + (w1.length + ws.length + 1) by omega]
      exact hf
    · refine hW S3 c3 h3 ?_ (((Fr.set.trans f2).trans Fr.push).trans f3)
      rw [show a + (w1.length + ws.length + 1) = a + 1 + w1.length + ws.length by omega]
      exact H3
  | @or0 d F =>
    intro n S r q ts a e c fuel W H hc hr hf hf2 hfu hl hd hn hW
    obtain ⟨fuel, rfl⟩ : ∃ m, fuel = m + 1 := ⟨fuel - 1, by simp at hfu; omega⟩
    obtain ⟨m, rfl⟩ : ∃ m, n = m + 1 := ⟨n - 1, by omega⟩
    obtain ⟨t, ht, hz⟩ := hf2
    exact while_stop (acc_no H ht tOr' hz) (hW S c hc H Fr.refl)
  | @or1 d w1 ws F0 G F h h2 i1 i2 =>
    intro n S r q ts a e c fuel W H hc hr hf hf2 hfu hl hd hn hW
    simp only [List.length_cons, List.length_append] at hfu hl hf hf2 hW
    obtain ⟨fuel, rfl⟩ : ∃ m, fuel = m + 1 := ⟨fuel - 1, by omega⟩
    obtain ⟨m, rfl⟩ : ∃ m, n = m + 2 := ⟨n - 2, by omega⟩
    obtain ⟨⟨p, hp⟩, hr2⟩ := hr.cons
    obtain ⟨hr3, hr4⟩ := hr2.app
    rw [show a + (w1.length + ws.length + 1) = a + 1 + w1.length + ws.length by omega] at hf hf2
    refine while_one (acc_yes (n := m + 1) H hp tOr' (acc_same (by simp [PW]))) ?_
    have H1 : Rd (S.set r (rdO q (a + 1) e)) r q ts (a + 1) e := H.set
    have hc1 : CondAt (S.set r (rdO q (a + 1) e)) c F0 := hc.rd H Fr.set
    unfold oB
    simp only [sat_set, eBin_ev, eVar_s, eVar_0, bind_ok', k_bot H1, aList_nil, sat_bind, List.set_cons_succ, List.set_cons_zero]
    refine (i1 W.e (m + 2) _ r q ts (a + 1) e H1 hr3 (fol_or h2 hr4 hf) (by omega) hd (by omega)).imp (fun v S2 ⟨c1, hv, hc2, H2, f2⟩ => ?_) fun _ _ h => h
    subst hv
    have hc3 := hc1.rd H1 f2
    obtain ⟨x, hx⟩ := hc3.ins
    obtain ⟨y, hy⟩ := hc2.ins
    rw [or_ok hx hy, sat_ok]
    refine i2 (m + 2) _ r q ts (a + 1 + w1.length) e _ fuel W H2.push ⟨c, c1, Store.get_push_same, hc3.ext Ext.push, hc2.ext Ext.push⟩ hr4 hf hf2 (by omega) (by omega) hd (by omega) fun S3 c3 h3 H3 f3 => ?_
    refine hW S3 c3 h3 ?_ (((Fr.set.trans f2).trans Fr.push).trans f3)
    rw [show a + (w1.length + ws.length + 1) = a + 1 + w1.length + ws.length by omega]
    exact H3
end L2.Mi.Pg

set_option Elab.async false
set_option linter.all false
set_option maxRecDepth 100000
set_option maxHeartbeats 1000000
namespace L2.Mi.Pg
open PySem
theorem kind_ok2 {lx : FN} (hx : LenOk lx) {oE : Op2} {ks : List (List Nat)} {w : List Nat} {S : Store} {kd : D} (hE : ∀ a b S, Txt a → Txt b → oE (.str a) (.str b) S = .ok (.bl (a == b)) S) (hk : seqD S kd = some (ks.map D.str)) (h0 : w ≠ []) (hl : w.length ≤ 90000) (ht : Txt w) :
    kindM lx oE [some (.str w), some kd, none] S = .rt (.str (kindS ks w)) S := by
  obtain ⟨c, r, rfl⟩ : ∃ c r, w = c :: r := by
    cases w with
    | nil => exact absurd rfl h0
    | cons c r => exact ⟨c, r, rfl⟩
  have i0 : itemF (.str (c :: r)) (.int 0) S = .ok (.str [c]) S := itemF_str (k := 0) (by omega) rfl
  have tc : Txt [c] := ht.sub fun x hx => by simp at hx; simp [hx]
  have t48 : Txt [48] := fun x hx => by simp at hx; omega
  refine rt_of ?_
  unfold kindM kindS
  simp only [sat_seq, sat_if, tOf_ev, eBin_ev, eVar_0, eVar_s, bind_ok', inF_strs hk, Bool.false_eq_true, if_false, sat_ok, sat_ret, eC_ev, sat_next, i0, inF_chr]
  cases q1 : ks.any (· == c :: r) with
  | true => simp
  | false =>
    simp only [Bool.false_eq_true, if_false]
    by_cases q2 : c ∈ LETS
    · simp [q2]
    · simp only [decide_eq_false q2, Bool.false_eq_true, if_false]
      refine for_sat (fun ds σ S2 => S2 = S ∧ (∃ o, σ = [some (.str (c :: r)), some kd, o]) ∧ ∃ p q, c :: r = p ++ q ∧ ds = chars q ∧ allD p = true) (walk_text eVar_0) (by rw [chars_len]; omega) ⟨rfl, ⟨none, rfl⟩, [], c :: r, rfl, rfl, rfl⟩ ?_ ?_
      · rintro d ds σ S2 ⟨rfl, ⟨o, rfl⟩, p, q, e1, e2, e3⟩
        obtain ⟨x, q', rfl, rfl, rfl⟩ := chars_cons e2
        simp only [gName_ev, sat_ok, List.set_cons_succ, List.set_cons_zero, sat_if, tOf_ev, eBin_ev, eVar_0, eVar_s, bind_ok', eC_ev, inF_chr, if_true, sat_ret, sat_next]
        by_cases q3 : x ∈ DIGS
        · simp only [decide_eq_true q3, Bool.not_true, Bool.false_eq_true, if_false]
          refine ⟨trivial, ⟨_, rfl⟩, p ++ [x], q', by simp [e1], rfl, ?_⟩
          unfold allD at e3 ⊢
          simp [e3, q3]
        · simp only [decide_eq_false q3, Bool.not_false, if_true]
          have q4 : allD (c :: r) = false := by
            rw [e1]
            unfold allD
            simp [q3]
          simp [q4]
      · rintro σ S2 ⟨rfl, ⟨o, rfl⟩, p, q, e1, e2, e3⟩
        have e4 := chars_nil e2
        subst e4
        rw [List.append_nil] at e1
        rw [← e1] at e3
        simp only [tAnd_ev, tOf_ev, eBin_ev, eVar_0, bind_ok', eC_ev, i0, hE _ _ _ tc t48, sat_bind, sat_ok, eFn_ev, aList_cons, aList_nil, hx _ _ (show (c :: r).length ≤ 900000 by omega), gtI_ev, e3, if_true]
        by_cases q3 : c = 48
        · subst q3
          cases r with
          | nil => simp
          | cons b r => simp; omega
        · have n1 : ([c] == [48]) = false := by simp [q3]
          have n2 : (c == 48) = false := by simp [q3]
          simp [n1, n2]
section
variable {S : Store} {r k : Nat} {n d : Nat} {l : List Nat} {E : Xn → Store → Prop} {F : Form}
theorem tokF : TokF KWS (.kt (KWS.map D.str)) (oEq (run (n + 1))) (run (n + 1) 4) (run (n + 1) 5) where
  kq := fun S => rfl
  eI := fun i j S => oEq_int
  eS := fun a b S ha hb => oEq_str ha hb
  kF := fun w S h0 hl ht => by
    rw [run_4]
    have e : m_4 (run n) = kindM lenF (oEq (run n)) := rfl
    rw [e, kind_ok2 lenF_ok (ks := KWS) (kd := .kt (KWS.map D.str)) (fun a b S ha hb => oEq_str ha hb) rfl h0 hl ht]
    rfl
  eF := fun l r rest a S hl hd ha hr hs => by
    rw [run_5]
    have e : m_5 (run n) = endM lenF := rfl
    rw [e, end_ok lenF_ok hl hd ha hr hs]
    rfl
theorem tok_ok {ts : List Tok} (h : Tk SGS KWS 0 l ts) (hl : l.length ≤ 90000) (hx : Txt l) : run (n + 2) 6 [.str l, .str SGS] S = .ok (.ref S.size) (S.push (.lst (ts.map Tok.d))) := by
  rw [run_6_]
  have e : m_6 (run (n + 1)) = toksM lenF (oEq (run (n + 1))) (run (n + 1) 4) (run (n + 1) 5) := rfl
  rw [e]
  have z := toks_ok (S := S) lenF_ok (tokF (n := n)) (sg := SGS) (by decide) hl hx h
  show fin (toksM _ _ _ _ [some (.str l), some (.str SGS), some (.kt (KWS.map D.str)), none, none, none] S) = _
  rw [z]
  rfl
theorem fld_ev {ok : Nat → Bool} {fi c : Nat} {fs : List (Nat × D)} {mo mv : ME} {σ : En} {S1 : Store} {v : D} (h0 : mv σ S = .ok v S1) (h1 : mo σ S1 = .ok (.ref r) S1) (hg : S1.get r = some (.ins c fs)) (hok : ok c = true) (hl : fs.length < 900) : sFld ok fi mo mv σ S = .nx σ (S1.set r (.ins c (putN fi v fs))) := by
  unfold sFld
  simp only [h0, h1, bind_ok', fldSet, hg, hok, decide_eq_true hl, Bool.and_self, if_true]
theorem rd_mk {ts : List Tok} (h : Tk SGS KWS 0 l ts) (hl : l.length ≤ 80000) (hx : Txt l) : ∃ S', makeW 1 (run (n + 3) 15) [.str l] S = .ok (.ref S.size) S' ∧ Rd S' S.size (S.size + 1) ts 0 0 ∧ Fr S S' S.size := by
  obtain ⟨a1, a2, a3⟩ := tk_all (m := 80000) h hx hl
  have ht := tok_ok (n := n) (S := S.push (.ins 1 [])) h (by omega) hx
  have hsz : (S.push (.ins 1 [])).size = S.size + 1 := Store.size_push _ _
  rw [hsz] at ht
  generalize hT : Ob.lst (ts.map Tok.d) = T at ht
  have g1 : ((S.push (.ins 1 [])).push T).get S.size = some (.ins 1 []) := by
    rw [Store.get_push_lt (by omega), Store.get_push_same]
  have ea : oAdd (run (n + 2)) (.str [123, 125, 91, 93, 43, 45, 42]) (.str [40, 41]) (S.push (.ins 1 [])) = .ok (.str SGS) (S.push (.ins 1 [])) := add_ss (by simp)
  have f1 := fld_ev (ok := st_tokens) (fi := 3) (σ := [some (.ref S.size), some (.str l)]) (mo := eVar 0) (mv := eFn (run (n + 2) 6) (aList [eVar 1, eBin (oAdd (run (n + 2))) (eC (.str [123, 125, 91, 93, 43, 45, 42])) (eC (.str [40, 41]))])) (S := S.push (.ins 1 [])) (S1 := (S.push (.ins 1 [])).push T) (v := .ref (S.size + 1)) (by
    simp only [eFn_ev, aList_cons, aList_nil, eVar_s, eVar_0, eBin_ev, eC_ev, bind_ok', ea, ht]) eVar_0 g1 rfl (by simp)
  have g2 := Store.get_set_same' (o := .ins 1 (putN 3 (.ref (S.size + 1)) [])) g1
  have f2 := fld_ev (ok := st_at) (fi := 4) (σ := [some (.ref S.size), some (.str l)]) (mo := eVar 0) (mv := eC (.int 0)) eC_ev eVar_0 g2 rfl (by simp [putN])
  rw [Store.set_set] at f2
  have g3 := Store.get_set_same' (o := .ins 1 (putN 4 (.int 0) (putN 3 (.ref (S.size + 1)) []))) g1
  have f3 := fld_ev (ok := st_depth) (fi := 5) (σ := [some (.ref S.size), some (.str l)]) (mo := eVar 0) (mv := eC (.int 0)) eC_ev eVar_0 g3 rfl (by simp [putN])
  rw [Store.set_set] at f3
  have hE : Ob.ins 1 (putN 5 (.int 0) (putN 4 (.int 0) (putN 3 (.ref (S.size + 1)) []))) = rdO (S.size + 1) 0 0 := rfl
  rw [hE] at f3
  refine ⟨((S.push (.ins 1 [])).push T).set S.size (rdO (S.size + 1) 0 0), ?_, ⟨Store.get_set_same' g1, ?_, by omega, fun t ht => ⟨(a1 t ht).k, (a1 t ht).w⟩⟩, ⟨by rw [Store.size_set, Store.size_push, Store.size_push]; omega, fun j hj nj => ?_⟩⟩
  · unfold makeW
    rw [run_15]
    have em : m_15 (run (n + 2)) = sSeq (sIf (tNot (tTru (eFn (isiF isiL) (aList [eVar 1, eC (.ty "str")])))) (sRaise 1 2 (eVar 1)) (sNext)) (sSeq (sFld st_tokens 3 (eVar 0) (eFn (run (n + 2) 6) (aList [eVar 1, eBin (oAdd (run (n + 2))) (eC (.str [123, 125, 91, 93, 43, 45, 42])) (eC (.str [40, 41]))]))) (sSeq (sFld st_at 4 (eVar 0) (eC (.int 0))) (sFld st_depth 5 (eVar 0) (eC (.int 0))))) := rfl
    have e0 : ∀ {S : Store}, isiF isiL [.str l, .ty "str"] S = .ok (.bl true) S := fun {S} => by kernel_rfl
    rw [em, sSeq_ev, sIf_ev]
    simp only [tNot_ev, tTru_ev, eFn_ev, aList_cons, aList_nil, eVar_s, eVar_0, eC_ev, bind_ok', e0, truD_bl, Bool.not_true, Bool.false_eq_true, if_false, sNext_ev]
    rw [sSeq_ev, f1]
    simp only [sSeq_ev, f2, f3, fin_nx, bind_ok']
  · rw [Store.get_set_ne (by omega), ← hsz, Store.get_push_same, hT]
  · rw [Store.get_set_ne (Ne.symm nj), Store.get_push_lt (by omega), Store.get_push_lt hj]
theorem ext_of {S2 : Store} (f : Fr S S2 S.size) : Ext S S2 := fun i u h => f.get h (by have := Store.get_lt h; omega)
/-- read_condition(text) -/
theorem read_ok {ps : List Pc} (hp : ∀ p ∈ ps, PcOk p) (hs : Seps ps.tail) (hl : ps.length ≤ 2000) (hg : Gr 0 d .any (ps.map Pc.w) F) (hd : d ≤ 20) (hn : 3 * d + 8 ≤ n) : (run (n + 1) 24 [.str (txtOf ps)] S).sat (MadeQ S F) E := by
  obtain ⟨l1, l2⟩ := txtOf_len hp
  obtain ⟨ts, k1, k2⟩ := tk_pcs ps 0 hp hs
  obtain ⟨h1, p, h2⟩ := rst_of k2
  obtain ⟨m, rfl⟩ : ∃ m, n = m + 3 := ⟨n - 3, by omega⟩
  obtain ⟨S1, e1, H1, f1⟩ := rd_mk (n := m) (S := S) k1 (by omega) l2
  rw [run_24]
  refine sat_fin ?_
  unfold m_24
  have e2 : eFn (makeW 1 (run (m + 3) 15)) (aList [eVar 0]) [some (.str (txtOf ps)), none, none] S = .ok (.ref S.size) S1 := by
    simp only [eFn_ev, aList_cons, aList_nil, eVar_0, bind_ok', e1]
  rw [set_first e2]
  simp only [List.set_cons_succ, List.set_cons_zero]
  have e3 : ∀ {S2 : Store} {o : Option D}, eVar 1 [some (.str (txtOf ps)), some (.ref S.size), o] S2 = .ok (.ref S.size) S2 := rfl
  rw [sat_seq, sat_set, meth_ev (g := run (m + 3) 19) e3 H1.hr rfl rfl]
  simp only [aList_nil, bind_ok']
  have hf : ∀ w, w ≠ [] → fol ts (0 + (ps.map Pc.w).length) w := fun w hw => ⟨_, by rw [Nat.zero_add]; exact h2, by
    unfold acc
    rfl⟩
  refine (parse_ok hg E (m + 3) S1 S.size (S.size + 1) ts 0 0 H1 h1 (hf _ (by simp)) (hf _ (by simp)) (by rw [List.length_map]; omega) (by omega) hn).imp (fun v S2 ⟨c, hv, hc, H2, f2⟩ => ?_) fun _ _ h => h
  subst hv
  simp only [List.set_cons_succ, List.set_cons_zero]
  have e4 : run (m + 3) 18 [.ref S.size] S2 = .ok .non S2 := by
    rw [run_18]
    unfold m_18
    rw [Nat.zero_add] at H2
    have i0 : itemF (⟨ENDW, [], p⟩ : Tok).d (.int 0) S2 = .ok (.str ENDW) S2 := rfl
    have e5 : oNe (run (m + 2)) (.str ENDW) (.str [101, 110, 100]) S2 = .ok (.bl (!(ENDW == ENDW))) S2 := neF_str tEND tEND
    rw [sIf_ev, tOf_ev, eBin_ev, eBin_ev, tok_ev H2 h2]
    simp only [bind_ok', eC_ev, i0, e5, beq_self_eq_true, Bool.not_true, Bool.false_eq_true, if_false, sNext_ev, fin_nx]
  rw [sat_seq, sat_drop, meth_ev (g := run (m + 3) 18) e3 H2.hr rfl rfl]
  simp only [aList_nil, bind_ok', e4, sat_ok, sat_ret, eVar_s, eVar_0]
  exact ⟨ext_of (f1.trans f2), c, rfl, hc⟩
end
end L2.Mi.Pg

set_option Elab.async false
set_option linter.all false
set_option maxRecDepth 100000
set_option maxHeartbeats 1000000
namespace L2.Mi.Pg
open PySem
def fq : Form → Form → Bool
  | .any, .any => true
  | .nt f, .nt g => fq f g
  | .an f f2, .an g g2 => fq f g && fq f2 g2
  | .or f f2, .or g g2 => fq f g && fq f2 g2
  | .atm k v, .atm k2 v2 => (KS.getD k [] == KS.getD k2 []) && atEq v v2
  | _, _ => false
theorem fq_self : ∀ F, fq F F = true
  | .any => rfl
  | .nt f => fq_self f
  | .an f g => by unfold fq; rw [fq_self f, fq_self g]; rfl
  | .or f g => by unfold fq; rw [fq_self f, fq_self g]; rfl
  | .atm k v => by unfold fq; rw [at_self]; simp
theorem tup1 {a b : List Nat} : atEq (.tup [.str a]) (.tup [.str b]) = (a == b) := by
  simp [atEq, toP, toPs, PyData.eqv, PyData.eqvAll, str_beq]
theorem tup12 {a b : List Nat} {x : D} : atEq (.tup [.str a]) (.tup [.str b, x]) = false := by
  simp [atEq, toP, toPs, PyData.eqv, PyData.eqvAll, str_beq]
theorem tup21 {a b : List Nat} {x : D} : atEq (.tup [.str b, x]) (.tup [.str a]) = false := by
  simp [atEq, toP, toPs, PyData.eqv, PyData.eqvAll, str_beq]
theorem tup2 {a b : List Nat} {x y : D} : atEq (.tup [.str a, x]) (.tup [.str b, y]) = ((a == b) && atEq x y) := by
  simp [atEq, toP, toPs, PyData.eqv, PyData.eqvAll, str_beq]
theorem tup13 {a b : List Nat} {x y : D} : atEq (.tup [.str a]) (.tup [.str b, x, y]) = false := by
  simp [atEq, toP, toPs, PyData.eqv, PyData.eqvAll, str_beq]
theorem tup31 {a b : List Nat} {x y : D} : atEq (.tup [.str b, x, y]) (.tup [.str a]) = false := by
  simp [atEq, toP, toPs, PyData.eqv, PyData.eqvAll, str_beq]
theorem tup23 {a b : List Nat} {x y z : D} : atEq (.tup [.str a, z]) (.tup [.str b, x, y]) = false := by
  simp [atEq, toP, toPs, PyData.eqv, PyData.eqvAll, str_beq]
theorem tup32 {a b : List Nat} {x y z : D} : atEq (.tup [.str b, x, y]) (.tup [.str a, z]) = false := by
  simp [atEq, toP, toPs, PyData.eqv, PyData.eqvAll, str_beq]
theorem tup3 {a b : List Nat} {x y x2 y2 : D} : atEq (.tup [.str a, x, y]) (.tup [.str b, x2, y2]) = ((a == b) && (atEq x x2 && atEq y y2)) := by
  simp [atEq, toP, toPs, PyData.eqv, PyData.eqvAll, str_beq]
theorem key_not {k : Nat} (hk : k < 6) : (wNOT == KS.getD k []) = false ∧ (KS.getD k [] == wNOT) = false := by
  have := (key_no hk).2.2.1
  exact ⟨beq_eq_false_iff_ne.mpr fun e => (beq_eq_false_iff_ne.mp this) e.symm, this⟩
theorem fd_eq : ∀ (F G : Form), FOk F → FOk G → atEq (fd F) (fd G) = fq F G
  | .any, .any, _, _ => tup1
  | .any, .nt g, _, _ => tup12
  | .any, .an g g2, _, _ => tup13
  | .any, .or g g2, _, _ => tup13
  | .any, .atm k v, _, _ => tup12
  | .nt f, .any, _, _ => tup21
  | .nt f, .nt g, h, h2 => tup2.trans (fd_eq f g h h2)
  | .nt f, .an g g2, _, _ => tup23
  | .nt f, .or g g2, _, _ => tup23
  | .nt f, .atm k v, _, h2 => by unfold fd; rw [tup2, (key_not h2.1).1]; rfl
  | .an f f2, .any, _, _ => tup31
  | .an f f2, .nt g, _, _ => tup32
  | .an f f2, .an g g2, h, h2 => by unfold fd; rw [tup3, fd_eq f g h.1 h2.1, fd_eq f2 g2 h.2 h2.2]; rfl
  | .an f f2, .or g g2, _, _ => by unfold fd; rw [tup3]; rfl
  | .an f f2, .atm k v, _, _ => tup32
  | .or f f2, .any, _, _ => tup31
  | .or f f2, .nt g, _, _ => tup32
  | .or f f2, .an g g2, _, _ => by unfold fd; rw [tup3]; rfl
  | .or f f2, .or g g2, h, h2 => by unfold fd; rw [tup3, fd_eq f g h.1 h2.1, fd_eq f2 g2 h.2 h2.2]; rfl
  | .or f f2, .atm k v, _, _ => tup32
  | .atm k v, .any, _, _ => tup21
  | .atm k v, .nt g, h, _ => by unfold fd; rw [tup2, (key_not h.1).2]; rfl
  | .atm k v, .an g g2, _, _ => tup23
  | .atm k v, .or g g2, _, _ => tup23
  | .atm k v, .atm k2 v2, _, _ => tup2
theorem fd_ok : ∀ (F : Form) (m : Nat), FOk F → dp F < m → okD m (fd F) = true
  | F, 0, _, h => absurd h (by omega)
  | .any, m + 1, _, _ => by
    unfold fd okD okDs okDs
    rw [okD_str tAny]
    rfl
  | .nt f, m + 1, h, hm => by
    unfold dp at hm
    unfold fd okD okDs okDs okDs
    rw [okD_str tNot', fd_ok f m h (by omega)]
    rfl
  | .an f g, m + 1, h, hm => by
    unfold dp at hm
    unfold fd okD okDs okDs okDs okDs
    rw [okD_str tAnd', fd_ok f m h.1 (by omega), fd_ok g m h.2 (by omega)]
    rfl
  | .or f g, m + 1, h, hm => by
    unfold dp at hm
    unfold fd okD okDs okDs okDs okDs
    rw [okD_str tOr', fd_ok f m h.1 (by omega), fd_ok g m h.2 (by omega)]
    rfl
  | .atm k v, m + 1, h, _ => by
    have h0 := h.2.1
    unfold fd okD okDs okDs okDs
    rw [okD_str (key_no h.1).1]
    have : okD m v = true := by
      cases h0 with
      | non => cases m <;> rfl
      | int i => cases m <;> rfl
      | str x t => exact okD_str t
    rw [this]
    rfl
section
variable {S : Store} {n : Nat} {call : Nat → FN}
/-- one place, one condition -/
theorem CondAt.det : ∀ {F G : Form} {c : Nat}, FOk F → FOk G → CondAt S c F → CondAt S c G → F = G
  | .any, G, c, h, h2, hc, hd => by
    cases G with
    | any => rfl
    | nt g => obtain ⟨x, hx, _⟩ := hd; have hc : S.get c = _ := hc; rw [hx] at hc; simp at hc
    | an g g2 => obtain ⟨x, y, hx, _⟩ := hd; have hc : S.get c = _ := hc; rw [hx] at hc; simp at hc
    | or g g2 => obtain ⟨x, y, hx, _⟩ := hd; have hc : S.get c = _ := hc; rw [hx] at hc; simp at hc
    | atm k v => have hd : S.get c = _ := hd; have hc : S.get c = _ := hc; rw [hd] at hc; simp at hc
  | .nt f, G, c, h, h2, ⟨a, ha, ka⟩, hd => by
    cases G with
    | any => have hd : S.get c = _ := hd; rw [hd] at ha; simp at ha
    | nt g =>
      obtain ⟨x, hx, kx⟩ := hd
      rw [hx] at ha
      simp at ha
      subst ha
      rw [CondAt.det (F := f) (G := g) h h2 ka kx]
    | an g g2 => obtain ⟨x, y, hx, _⟩ := hd; rw [hx] at ha; simp at ha
    | or g g2 => obtain ⟨x, y, hx, _⟩ := hd; rw [hx] at ha; simp at ha
    | atm k v =>
      have hd : S.get c = _ := hd
      rw [hd] at ha
      have z := (key_not h2.1).2
      simp only [Option.some.injEq, Ob.ins.injEq, List.cons.injEq, Prod.mk.injEq, D.tup.injEq, D.str.injEq] at ha
      exact absurd ha.2.1.2.1 (beq_eq_false_iff_ne.mp z)
  | .an f g, G, c, h, h2, ⟨a, b, ha, ka, kb⟩, hd => by
    cases G with
    | any => have hd : S.get c = _ := hd; rw [hd] at ha; simp at ha
    | nt g => obtain ⟨x, hx, _⟩ := hd; rw [hx] at ha; simp at ha
    | an f2 g2 =>
      obtain ⟨x, y, hx, kx, ky⟩ := hd
      rw [hx] at ha
      simp at ha
      obtain ⟨rfl, rfl⟩ := ha
      rw [CondAt.det h.1 h2.1 ka kx, CondAt.det h.2 h2.2 kb ky]
    | or f2 g2 => obtain ⟨x, y, hx, _⟩ := hd; rw [hx] at ha; simp at ha
    | atm k v => have hd : S.get c = _ := hd; rw [hd] at ha; simp at ha
  | .or f g, G, c, h, h2, ⟨a, b, ha, ka, kb⟩, hd => by
    cases G with
    | any => have hd : S.get c = _ := hd; rw [hd] at ha; simp at ha
    | nt g => obtain ⟨x, hx, _⟩ := hd; rw [hx] at ha; simp at ha
    | or f2 g2 =>
      obtain ⟨x, y, hx, kx, ky⟩ := hd
      rw [hx] at ha
      simp at ha
      obtain ⟨rfl, rfl⟩ := ha
      rw [CondAt.det h.1 h2.1 ka kx, CondAt.det h.2 h2.2 kb ky]
    | an f2 g2 => obtain ⟨x, y, hx, _⟩ := hd; rw [hx] at ha; simp at ha
    | atm k v => have hd : S.get c = _ := hd; rw [hd] at ha; simp at ha
  | .atm k v, G, c, h, h2, hc, hd => by
    have hc : S.get c = some (.ins 0 [(0, .tup [.str (KS.getD k []), v])]) := hc
    cases G with
    | any => have hd : S.get c = _ := hd; rw [hd] at hc; simp at hc
    | nt g =>
      obtain ⟨x, hx, _⟩ := hd
      rw [hx] at hc
      have z := (key_not h.1).1
      simp only [Option.some.injEq, Ob.ins.injEq, List.cons.injEq, Prod.mk.injEq, D.tup.injEq, D.str.injEq] at hc
      exact absurd hc.2.1.2.1 (beq_eq_false_iff_ne.mp z)
    | an g g2 => obtain ⟨x, y, hx, _⟩ := hd; rw [hx] at hc; simp at hc
    | or g g2 => obtain ⟨x, y, hx, _⟩ := hd; rw [hx] at hc; simp at hc
    | atm k2 v2 =>
      have hd : S.get c = some (.ins 0 [(0, .tup [.str (KS.getD k2 []), v2])]) := hd
      rw [hd] at hc
      simp only [Option.some.injEq, Ob.ins.injEq, List.cons.injEq, Prod.mk.injEq, D.tup.injEq, D.str.injEq] at hc
      have e1 := hc.2.1.2.1
      have e2 := hc.2.1.2.2.1
      by_cases e : k2 = k
      · subst e
        rw [e2]
      · exact absurd e1 (beq_eq_false_iff_ne.mp (ks_ne k2 h2.1 k h.1 e))
/-- two conditions as items -/
theorem it_ref {a b : Nat} {f g : Form} (h : FOk f) (h2 : FOk g) (ka : CondAt S a f) (kb : CondAt S b g) (e : call 13 [.ref a, .ref b] S = .ok (.bl (fq f g)) S) : eqIt (ownI (dEq call)) (.ref a) (.ref b) S = .ok (fq f g) S := by
  show (if a = b then Res.ok true S else (match ownI (dEq call) a b S with | .ok (.bl b) S1 => .ok b S1 | _ => .bad)) = _
  by_cases hab : a = b
  · subst hab
    rw [if_pos rfl, CondAt.det h h2 ka kb, fq_self]
  · rw [if_neg hab]
    obtain ⟨d1, g1⟩ := ka.ins
    obtain ⟨d2, g2⟩ := kb.ins
    have eo : ownI (dEq call) a b S = .ok (.bl (fq f g)) S := by
      unfold ownI
      simp only [g1, g2, dEq, if_true]
      exact e
    rw [eo]
theorem it_str {a b : List Nat} {own : Nat → Nat → Store → Res D} : eqIt own (.str a) (.str b) S = .ok (a == b) S := rfl
theorem its_no {own : Nat → Nat → Store → Res D} {a b : List Nat} {l l2 : List D} (h : (a == b) = false) : eqIts own (.str a :: l) (.str b :: l2) S = .ok false S := by
  unfold eqIts
  rw [it_str, h]
theorem its_yes {own : Nat → Nat → Store → Res D} {a : List Nat} {l l2 : List D} : eqIts own (.str a :: l) (.str a :: l2) S = eqIts own l l2 S := by
  conv => lhs; unfold eqIts
  rw [it_str]
  simp
theorem its_one {own : Nat → Nat → Store → Res D} {x y : D} {b : Bool} (h : eqIt own x y S = .ok b S) : eqIts own [x] [y] S = .ok b S := by
  unfold eqIts
  rw [h]
  cases b with
  | true => rfl
  | false => rfl
theorem its_two {own : Nat → Nat → Store → Res D} {x y x2 y2 : D} {b b2 : Bool} (h : eqIt own x y S = .ok b S) (h2 : eqIt own x2 y2 S = .ok b2 S) : eqIts own [x, x2] [y, y2] S = .ok (b && b2) S := by
  unfold eqIts
  rw [h]
  cases b with
  | true => exact its_one h2
  | false => rfl
/-- tuples with conditions in them go to the second way -/
theorem oEq_tup {x y : List D} (h : dat 64 S (.tup x) = none ∨ dat 64 S (.tup y) = none) {b : Bool} (e : eqIts (ownI (dEq call)) x y S = .ok b S) : oEq call (.tup x) (.tup y) S = .ok (.bl b) S := by
  have e1 : eqF (eqOwn isiL (dEq call)) (.tup x) (.tup y) S = .bad := by
    unfold eqF
    rcases h with h | h
    · rw [h]
      rfl
    · rw [h]
      cases dat 64 S (.tup x) <;> rfl
  unfold oEq opOr orB
  rw [e1]
  show (match eqIts (ownI (dEq call)) x y S with | .ok b S1 => Res.ok (D.bl b) S1 | _ => .bad) = _
  rw [e]
theorem la_ins {a c : Nat} {fs : List (Nat × D)} (h : S.get a = some (.ins c fs)) : listAt S (.ref a) = none := by
  unfold listAt
  simp only [h]
theorem dat_ref {a m c : Nat} {fs : List (Nat × D)} (h : S.get a = some (.ins c fs)) : dat m S (.ref a) = none := by
  cases m <;> simp [dat, la_ins h]
theorem mapO_no {f : D → Option PyData} {w x : D} {l : List D} (h : f x = none) : mapO f (w :: x :: l) = none := by
  unfold mapO
  have : mapO f (x :: l) = none := by
    unfold mapO
    rw [h]
  rw [this]
  cases f w <;> rfl
theorem dat_2 {a c : Nat} {fs : List (Nat × D)} {w : D} {l : List D} (h : S.get a = some (.ins c fs)) : dat 64 S (.tup (w :: .ref a :: l)) = none := by
  show (mapO (dat 63 S) (w :: .ref a :: l)).map PyData.tuple = none
  rw [mapO_no (dat_ref h)]
  rfl
theorem dp_nt {f : Form} : dp f < dp (.nt f) := Nat.lt_succ_self _
theorem dp_an {f g : Form} : dp f < dp (.an f g) ∧ dp g < dp (.an f g) := by
  show dp f < max (dp f) (dp g) + 1 ∧ dp g < max (dp f) (dp g) + 1
  omega
theorem dp_or {f g : Form} : dp f < dp (.or f g) ∧ dp g < dp (.or f g) := by
  show dp f < max (dp f) (dp g) + 1 ∧ dp g < max (dp f) (dp g) + 1
  omega
/-- == of forms -/
theorem form_eq : ∀ (F G : Form) (c c2 : Nat) (l l2 : List D), FOk F → FOk G → CondAt S c F → CondAt S c2 G → S.get c = some (.ins 0 [(0, .tup l)]) → S.get c2 = some (.ins 0 [(0, .tup l2)]) →
    (∀ f g a b, FOk f → FOk g → dp f < dp F → CondAt S a f → CondAt S b g → call 13 [.ref a, .ref b] S = .ok (.bl (fq f g)) S) → oEq call (.tup l) (.tup l2) S = .ok (.bl (fq F G)) S := by
  have same : ∀ {c : Nat} {l l2 : List D}, S.get c = some (.ins 0 [(0, .tup l)]) → S.get c = some (.ins 0 [(0, .tup l2)]) → l = l2 := fun h h2 => by
    rw [h] at h2
    simpa using h2
  have flat : ∀ {F G : Form}, FOk F → FOk G → dp F < 64 → dp G < 64 → oEq call (fd F) (fd G) S = .ok (.bl (fq F G)) S := fun {F G} h h2 d1 d2 => by
    unfold oEq opOr orB
    rw [eqF_ok 64 (fd_ok F 64 h d1) (fd_ok G 64 h2 d2)]
    simp only
    rw [← fd_eq F G h h2]
    rfl
  -- the left one holds a condition
  have left : ∀ {w w2 : List Nat} {a : Nat} {x x2 : List D} {f : Form}, CondAt S a f → (w == w2) = false → oEq call (.tup (.str w :: .ref a :: x)) (.tup (.str w2 :: x2)) S = .ok (.bl false) S := fun ka hw => by
    obtain ⟨d1, g1⟩ := ka.ins
    exact oEq_tup (.inl (dat_2 g1)) (its_no hw)
  have right : ∀ {w w2 : List Nat} {a : Nat} {x x2 : List D} {f : Form}, CondAt S a f → (w == w2) = false → oEq call (.tup (.str w :: x)) (.tup (.str w2 :: .ref a :: x2)) S = .ok (.bl false) S := fun ka hw => by
    obtain ⟨d1, g1⟩ := ka.ins
    exact oEq_tup (.inr (dat_2 g1)) (its_no hw)
  have key : ∀ {k : Nat}, k < 6 → (wAND == KS.getD k []) = false ∧ (wOR == KS.getD k []) = false ∧ (KS.getD k [] == wAND) = false ∧ (KS.getD k [] == wOR) = false := by decide
  intro F G c c2 l l2 h h2 kc kc2 hl hl2 ih
  cases F with
  | any =>
    obtain rfl := same hl kc
    cases G with
    | any => obtain rfl := same hl2 kc2; exact flat (F := .any) (G := .any) h h2 (by unfold dp; omega) (by unfold dp; omega)
    | nt g => obtain ⟨a, ha, ka⟩ := kc2; obtain rfl := same hl2 ha; exact right ka rfl
    | an g g2 => obtain ⟨a, b, ha, ka, _⟩ := kc2; obtain rfl := same hl2 ha; exact right ka rfl
    | or g g2 => obtain ⟨a, b, ha, ka, _⟩ := kc2; obtain rfl := same hl2 ha; exact right ka rfl
    | atm k v => obtain rfl := same hl2 kc2; exact flat (F := .any) (G := .atm k v) h h2 (by unfold dp; omega) (by unfold dp; omega)
  | atm k v =>
    obtain rfl := same hl kc
    cases G with
    | any => obtain rfl := same hl2 kc2; exact flat (F := .atm k v) (G := .any) h h2 (by unfold dp; omega) (by unfold dp; omega)
    | nt g => obtain ⟨a, ha, ka⟩ := kc2; obtain rfl := same hl2 ha; exact right ka (key_not h.1).2
    | an g g2 => obtain ⟨a, b, ha, ka, _⟩ := kc2; obtain rfl := same hl2 ha; exact right ka (key h.1).2.2.1
    | or g g2 => obtain ⟨a, b, ha, ka, _⟩ := kc2; obtain rfl := same hl2 ha; exact right ka (key h.1).2.2.2
    | atm k2 v2 => obtain rfl := same hl2 kc2; exact flat (F := .atm k v) (G := .atm k2 v2) h h2 (by unfold dp; omega) (by unfold dp; omega)
  | nt f =>
    obtain ⟨a, ha, ka⟩ := kc
    obtain rfl := same hl ha
    cases G with
    | any => obtain rfl := same hl2 kc2; exact left ka rfl
    | nt g =>
      obtain ⟨b, hb, kb⟩ := kc2
      obtain rfl := same hl2 hb
      obtain ⟨d1, g1⟩ := ka.ins
      have e := it_ref (call := call) (f := f) (g := g) h h2 ka kb (ih f g a b h h2 dp_nt ka kb)
      exact oEq_tup (.inl (dat_2 g1)) (its_yes.trans (its_one e))
    | an g g2 => obtain ⟨b, b2, hb, kb, _⟩ := kc2; obtain rfl := same hl2 hb; exact left ka rfl
    | or g g2 => obtain ⟨b, b2, hb, kb, _⟩ := kc2; obtain rfl := same hl2 hb; exact left ka rfl
    | atm k v => obtain rfl := same hl2 kc2; exact left ka (key_not h2.1).1
  | an f f2 =>
    obtain ⟨a, a2, ha, ka, ka2⟩ := kc
    obtain rfl := same hl ha
    cases G with
    | any => obtain rfl := same hl2 kc2; exact left ka rfl
    | nt g => obtain ⟨b, hb, kb⟩ := kc2; obtain rfl := same hl2 hb; exact left ka rfl
    | an g g2 =>
      obtain ⟨b, b2, hb, kb, kb2⟩ := kc2
      obtain rfl := same hl2 hb
      obtain ⟨d1, g1⟩ := ka.ins
      have e := it_ref (call := call) h.1 h2.1 ka kb (ih f g a b h.1 h2.1 dp_an.1 ka kb)
      have e2 := it_ref (call := call) h.2 h2.2 ka2 kb2 (ih f2 g2 a2 b2 h.2 h2.2 dp_an.2 ka2 kb2)
      exact oEq_tup (.inl (dat_2 g1)) (its_yes.trans (its_two e e2))
    | or g g2 => obtain ⟨b, b2, hb, kb, _⟩ := kc2; obtain rfl := same hl2 hb; exact left ka rfl
    | atm k v => obtain rfl := same hl2 kc2; exact left ka (key h2.1).1
  | or f f2 =>
    obtain ⟨a, a2, ha, ka, ka2⟩ := kc
    obtain rfl := same hl ha
    cases G with
    | any => obtain rfl := same hl2 kc2; exact left ka rfl
    | nt g => obtain ⟨b, hb, kb⟩ := kc2; obtain rfl := same hl2 hb; exact left ka rfl
    | an g g2 => obtain ⟨b, b2, hb, kb, _⟩ := kc2; obtain rfl := same hl2 hb; exact left ka rfl
    | or g g2 =>
      obtain ⟨b, b2, hb, kb, kb2⟩ := kc2
      obtain rfl := same hl2 hb
      obtain ⟨d1, g1⟩ := ka.ins
      have e := it_ref (call := call) h.1 h2.1 ka kb (ih f g a b h.1 h2.1 dp_or.1 ka kb)
      have e2 := it_ref (call := call) h.2 h2.2 ka2 kb2 (ih f2 g2 a2 b2 h.2 h2.2 dp_or.2 ka2 kb2)
      exact oEq_tup (.inl (dat_2 g1)) (its_yes.trans (its_two e e2))
    | atm k v => obtain rfl := same hl2 kc2; exact left ka (key h2.1).2.1
theorem CondAt.tup {c : Nat} {F : Form} (h : CondAt S c F) : ∃ l, S.get c = some (.ins 0 [(0, .tup l)]) := by
  cases F with
  | any => exact ⟨_, h⟩
  | nt f => obtain ⟨a, h, _⟩ := h; exact ⟨_, h⟩
  | an f g => obtain ⟨a, b, h, _⟩ := h; exact ⟨_, h⟩
  | or f g => obtain ⟨a, b, h, _⟩ := h; exact ⟨_, h⟩
  | atm k v => exact ⟨_, h⟩
/-- __eq__ of two conditions -/
theorem eq_ok : ∀ (n : Nat) (F G : Form) (c c2 : Nat), FOk F → FOk G → dp F < n → CondAt S c F → CondAt S c2 G → run n 13 [.ref c, .ref c2] S = .ok (.bl (fq F G)) S
  | 0, F, G, c, c2, _, _, h, _, _ => absurd h (by omega)
  | n + 1, F, G, c, c2, h, h2, hd, kc, kc2 => by
    obtain ⟨l, hl⟩ := kc.tup
    obtain ⟨l2, hl2⟩ := kc2.tup
    have e := form_eq (call := run n) F G c c2 l l2 h h2 kc kc2 hl hl2 fun f g a b h h2 hd' ka kb => eq_ok n f g a b h h2 (by omega) ka kb
    rw [run_13]
    unfold m_13
    have e0 : isiF isiL [.ref c2, .cl 0] S = .ok (.bl true) S := by
      unfold isiF
      have : tagOf S (.ref c2) = some (.o 0) := by unfold tagOf; simp only [hl2]
      simp only [this]
      rfl
    simp only [sRet_ev, eAnd_ev, tOf_ev, eFn_ev, aList_cons, aList_nil, eVar_s, eVar_0, eC_ev, bind_ok', e0, if_true, eBin_ev, eUn_ev, form_at hl, form_at hl2, e, fin_rt]
/-- a condition is no form -/
theorem eq_fd {F : Form} {c : Nat} {d : D} (hc : S.get c = some (.ins 0 [(0, d)])) : run (n + 1) 13 [.ref c, fd F] S = .ok (.bl false) S := by
  rw [run_13]
  unfold m_13
  have e0 : isiF isiL [fd F, .cl 0] S = .ok (.bl false) S := by
    cases F <;> (unfold fd; kernel_rfl)
  simp only [sRet_ev, eAnd_ev, tOf_ev, eFn_ev, aList_cons, aList_nil, eVar_s, eVar_0, eC_ev, bind_ok', e0, Bool.false_eq_true, if_false, fin_rt]
/-- the four ways that the law compares -/
theorem cmp_eq {F G : Form} {c c2 : Nat} (h : FOk F) (h2 : FOk G) (hd : dp F < n) (kc : CondAt S c F) (kc2 : CondAt S c2 G) : oEq (run n) (.ref c) (.ref c2) S = .ok (.bl (fq F G)) S := by
  obtain ⟨d1, g1⟩ := kc.ins
  obtain ⟨d2, g2⟩ := kc2.ins
  have e := eq_ok n F G c c2 h h2 hd kc kc2
  have e1 : eqF (eqOwn isiL (dEq (run n))) (.ref c) (.ref c2) S = .ok (.bl (fq F G)) S := by
    unfold eqF
    rw [dat_ref g1]
    have : tagOf S (.ref c2) = some (.o 0) := by unfold tagOf; simp only [g2]
    unfold eqOwn
    simp only [g1, this, dEq]
    exact e
  unfold oEq opOr orB
  rw [e1]
theorem cmp_ne {F G : Form} {c c2 : Nat} (h : FOk F) (h2 : FOk G) (hd : dp F < n) (kc : CondAt S c F) (kc2 : CondAt S c2 G) : oNe (run n) (.ref c) (.ref c2) S = .ok (.bl !(fq F G)) S := by
  obtain ⟨d1, g1⟩ := kc.ins
  obtain ⟨d2, g2⟩ := kc2.ins
  have e := eq_ok n F G c c2 h h2 hd kc kc2
  unfold oNe neF
  rw [dat_ref g1]
  have : tagOf S (.ref c2) = some (.o 0) := by unfold tagOf; simp only [g2]
  unfold neOwn
  simp only [g1, this, dEq, e]
  rfl
theorem cmp_fd {F G : Form} {c : Nat} (kc : CondAt S c F) : oEq (run (n + 1)) (.ref c) (fd G) S = .ok (.bl false) S := by
  obtain ⟨d1, g1⟩ := kc.ins
  have e := eq_fd (n := n) (F := G) g1
  have e1 : eqF (eqOwn isiL (dEq (run (n + 1)))) (.ref c) (fd G) S = .ok (.bl false) S := by
    unfold eqF
    rw [dat_ref g1]
    have z : ∃ t, tagOf S (fd G) = some t ∧ (t == .o 0 || isiL t (.o 0) == some false) = true := by
      cases G <;> exact ⟨_, rfl, by decide +kernel⟩
    obtain ⟨t, ht, hb⟩ := z
    unfold eqOwn
    simp only [g1, ht, dEq]
    rw [if_pos hb]
    exact e
  unfold oEq opOr orB
  rw [e1]
theorem cmp_ff {F G : Form} (h : FOk F) (h2 : FOk G) (hd : dp F < 64) (hd2 : dp G < 64) : oEq call (fd F) (fd G) S = .ok (.bl (fq F G)) S := by
  unfold oEq opOr orB
  rw [eqF_ok 64 (fd_ok F 64 h hd) (fd_ok G 64 h2 hd2)]
  simp only
  rw [← fd_eq F G h h2]
  rfl
end
end L2.Mi.Pg

set_option Elab.async false
set_option linter.all false
set_option maxRecDepth 100000
set_option maxHeartbeats 1000000
namespace L2.Mi.Pg
open PySem
@[irreducible] def i_0 (call : Nat → FN) : MS := sSet 7 (eFn (call 24) (aList [eVar 6]))
@[irreducible] def i_1 (call : Nat → FN) : MS := sIf (tOr (tNot (tTru (eFn (call 30) (aList [eVar 7, eVar 4])))) (tNot (tTru (eFn (call 30) (aList [eFn (call 32) (aList [eVar 4]), eVar 4]))))) (sRet (eC (.bl false))) (sNext)
@[irreducible] def i_2 (call : Nat → FN) : MS := sIf (tOr (tOf (eBin (oNe call) (eVar 7) (eFn (call 32) (aList [eVar 4])))) (tOr (tOf (eBin (oEq call) (eVar 7) (eVar 4))) (tNot (tOf (eBin (oEq call) (eVar 7) (eFn (call 24) (aList [eVar 6]))))))) (sRet (eC (.bl false))) (sNext)
@[irreducible] def u_0 (call : Nat → FN) : MS := sSet 4 (eFn (call 28) (aList [eVar 2, eC (.int 3)]))
@[irreducible] def u_1 (call : Nat → FN) : MS := sSet 5 (eLv [eBm isStr joinF (eC (.str [32])) (aList [eFn (call 29) (aList [eVar 4, eC (.int 0)])]), eFn (call 33) (aList [eVar 2, eFn (call 34) (aList [eVar 2, eVar 4])])])
@[irreducible] def u_2 (call : Nat → FN) : MS := sFor (iOr (iSeq (eVar 5)) (iTxt (eVar 5))) (gName 6) (sSeq (i_0 call) (sSeq (i_1 call) (i_2 call))) 100000
@[irreducible] def u_3 (call : Nat → FN) : MS := sSet 8 (eFn (call 28) (aList [eVar 2, eC (.int 2)]))
@[irreducible] def u_4 (call : Nat → FN) : MS := sIf (tOf (eBin (oNe call) (eBin (oEq call) (eFn (call 24) (aList [eBm isStr joinF (eC (.str [32])) (aList [eFn (call 29) (aList [eVar 8, eC (.int 0)])])])) (eFn (call 32) (aList [eVar 4]))) (eBin (oEq call) (eVar 8) (eVar 4)))) (sRet (eC (.bl false))) (sNext)
@[irreducible] def v_0 (call : Nat → FN) : MS := sSet 2 (eFn (call 25) (aList [eVar 0, eVar 1]))
@[irreducible] def v_1 (call : Nat → FN) : MS := sFor (iRange1 (eC (.int 5))) (gName 3) (sSeq (u_0 call) (sSeq (u_1 call) (sSeq (u_2 call) (sSeq (u_3 call) (u_4 call))))) 100000
@[irreducible] def w_0 (call : Nat → FN) : MS := sAsg (eLcV (iRange1 (eC (.int 3))) (.one 3) (tYesM) (eBin itemF (eFn (call 27) (aList [eVar 2])) (eFn (call 26) (aList [eVar 2, eC (.int 7)]))) [3] 100000) (gLstT [gName 9, gName 10, gName 11])
@[irreducible] def w_1 (call : Nat → FN) : MS := sSet 12 (eLcV (iOr (iSeq (eLv [eVar 9, eVar 10, eVar 11])) (iTxt (eLv [eVar 9, eVar 10, eVar 11]))) (.one 4) (tYesM) (eBm isStr joinF (eC (.str [32])) (aList [eFn (call 29) (aList [eVar 4, eC (.int 0)])])) [4] 100000)
@[irreducible] def x_0 (call : Nat → FN) : MS := sSet 14 (eTup [eVar 13, eTup [eVar 13, eVar 9, eVar 10], eVar 11])
@[irreducible] def x_1 (call : Nat → FN) : MS := sIf (tNot (tTru (eFn (call 30) (aList [eFn (call 24) (aList [eBm isStr joinF (eBin (oAdd call) (eBin (oAdd call) (eC (.str [32])) (eVar 13)) (eC (.str [32]))) (aList [eVar 12])]), eVar 14])))) (sRet (eC (.bl false))) (sNext)
@[irreducible] def w_2 (call : Nat → FN) : MS := sFor (iOr (iSeq (eLv [eC (.str [97, 110, 100]), eC (.str [111, 114])])) (iTxt (eLv [eC (.str [97, 110, 100]), eC (.str [111, 114])]))) (gName 13) (sSeq (x_0 call) (x_1 call)) 100000
@[irreducible] def w_3 (call : Nat → FN) : MS := sSet 15 (eFn (call 24) (aList [eBin (oAdd call) (eBin (oAdd call) (eBin (oAdd call) (eBin (oAdd call) (eBin itemF (eVar 12) (eC (.int 0))) (eC (.str [32, 111, 114, 32, 110, 111, 116, 32]))) (eBin itemF (eVar 12) (eC (.int 1)))) (eC (.str [32, 97, 110, 100, 32]))) (eBin itemF (eVar 12) (eC (.int 2)))]))
@[irreducible] def w_4 (call : Nat → FN) : MS := sIf (tNot (tTru (eFn (call 30) (aList [eVar 15, eTup [eC (.str [111, 114]), eVar 9, eTup [eC (.str [97, 110, 100]), eTup [eC (.str [110, 111, 116]), eVar 10], eVar 11]]])))) (sRet (eC (.bl false))) (sNext)
@[irreducible] def rb (call : Nat → FN) : MS := sSeq (v_0 call) (sSeq (v_1 call) (sSeq (w_0 call) (sSeq (w_1 call) (sSeq (w_2 call) (sSeq (w_3 call) (w_4 call))))))
@[irreducible] def tl (call : Nat → FN) : MS := sRet (eBin (oEq call) (eMeth (me_parts call) 16 (eFn (kwF [] (call 36)) (aList [])) (aList [])) (eTup [eC (.str [97, 110, 121])]))
theorem m35 {call : Nat → FN} : m_35 call = sSeq (sFor (iRange1 (eFn max2F (aList [eC (.int 1), eFn min2F (aList [eFn lenF (aList [eVar 0]), eC (.int 6)])]))) (gName 1) (rb call) 100000) (tl call) := by
  unfold rb tl v_0 v_1 u_0 u_1 u_2 u_3 u_4 i_0 i_1 i_2 w_0 w_1 w_2 w_3 w_4 x_0 x_1
  rfl
end L2.Mi.Pg

set_option Elab.async false
set_option linter.all false
set_option maxRecDepth 100000
set_option maxHeartbeats 1000000
namespace L2.Mi.Pg
open PySem
/-- a text that tells a form -/
def TextOk (F : Form) (l : List Nat) : Prop := ∃ ps, l = txtOf ps ∧ (∀ p ∈ ps, PcOk p) ∧ Seps ps.tail ∧ ps.length ≤ 2000 ∧ Gr 0 6 .any (ps.map Pc.w) F
theorem joined_ok {F : Form} {ws : List (List Nat)} (h : Gr 0 6 .any ws F) (hl : ws.length ≤ 2000) : TextOk F (TL.joinL [32] ws) := by
  obtain ⟨h1, h2⟩ := jp_ok h.voc
  refine ⟨jp ws, joinL_jp ws, h1, h2, ?_, by rw [jp_w]; exact h⟩
  have := congrArg List.length (jp_w ws)
  rw [List.length_map] at this
  omega
theorem pool_ext {S S2 : Store} {i : Nat} (h : Pool S i) (e : Ext S S2) : Pool S2 i := h.keep (by
  have hl := h.lt
  cases q : S.get i with
  | none =>
    obtain ⟨_, _, z, _⟩ := h
    rw [q] at z
    cases z
  | some u => exact e i u q)
section
variable {S : Store} {i : Nat} {F G : Form} {E : Xn → Store → Prop} {l : List Nat} {c : Nat}
theorem R24 (h : TextOk F l) : (run 30 24 [.str l] S).sat (MadeQ S F) E := by
  obtain ⟨ps, rfl, h1, h2, h3, h4⟩ := h
  exact read_ok (n := 29) h1 h2 h3 h4 (by omega) (by omega)
theorem B32 (h : FOk F) (hd : dp F ≤ 5) : (run 30 32 [fd F] S).sat (MadeQ S F) E := built_ok F 29 S h (by omega)
theorem L30 (h : FOk F) (hd : dp F ≤ 5) (hc : CondAt S c F) : run 30 30 [.ref c, fd F] S = .ok (.bl true) S := like_ok F 30 c h (by omega) hc
theorem W29 (h : FOk F) (hd : dp F ≤ 5) : run 30 29 [fd F, .int 0] S = .ok (.lv ((wds F 0).map D.str)) S := words_ok F 30 0 h (by omega) (by omega)
theorem join_ev {ws : List (List Nat)} {w : List Nat} {m : ME} {ma : MA} {σ : En} {d : D} (h0 : m σ S = .ok (.str w) S) (h1 : ma σ S = .ok [d] S) (hd : seqD S d = some (ws.map D.str)) (hl : totL ws + ws.length * w.length ≤ 1000000) : eBm isStr joinF m ma σ S = .ok (.str (TL.joinL w ws)) S := by
  rw [eBm_ev, h0, bind_ok']
  show (if true then _ else Res.bad) = _
  simp only [if_true, h1, bind_ok']
  exact joinF_ev hd hl
theorem gr_len {k d : Nat} {F0 : Form} {ws : List (List Nat)} (h : Gr k d F0 ws F) : totL ws ≤ ws.length * 8 := totL_le fun y hy => by
  rcases h.voc y hy with z | z | z
  · exact (voc_of z).ln
  · rw [z]; simp
  · rw [z]; simp
/-- ' '.join(words(form, 0)) -/
theorem words_text {σ : En} {j : Nat} (hj : eVar j σ S = .ok (fd F) S) (h : FOk F) (hd : dp F ≤ 5) : eBm isStr joinF (eC (.str [32])) (aList [eFn (run 30 29) (aList [eVar j, eC (.int 0)])]) σ S = .ok (.str (TL.joinL [32] (wds F 0))) S := by
  have hl := wds_len' F 0 (by omega)
  have hg := gr_len (wds_gr F 0 h (by omega))
  refine join_ev (ws := wds F 0) rfl (d := .lv ((wds F 0).map D.str)) ?_ rfl (by simp; omega)
  simp only [aList_cons, aList_nil, eFn_ev, hj, eC_ev, bind_ok', W29 h hd]
theorem words_ok' (h : FOk F) (hd : dp F ≤ 5) : TextOk F (TL.joinL [32] (wds F 0)) := by
  have hl := wds_len' F 0 (by omega)
  exact joined_ok ((wds_gr F 0 h (by omega)).up (by omega)) (by omega)
variable {o0 o1 o2 o3 o4 o5 o6 o7 o8 o9 o10 o11 o12 o13 o14 o15 : Option D}
theorem told_ok {R : D → Store → Prop} {B C : En → Store → Prop} (h : FOk F) (hd : dp F ≤ 5) (ht : TextOk F l) :
    (sSeq (i_0 (run 30)) (sSeq (i_1 (run 30)) (i_2 (run 30))) [o0, o1, o2, o3, some (fd F), o5, some (.str l), o7, o8, o9, o10, o11, o12, o13, o14, o15] S).sat
      ⟨fun σ S2 => Ext S S2 ∧ ∃ o7, σ = [o0, o1, o2, o3, some (fd F), o5, some (.str l), o7, o8, o9, o10, o11, o12, o13, o14, o15], R, E, B, C⟩ := by
  rw [sat_seq]
  unfold i_0
  rw [sat_set]
  simp only [eFn_ev, aList_cons, aList_nil, eVar_s, eVar_0, bind_ok']
  refine (R24 ht).imp (fun v S1 ⟨e1, c, hv, hc⟩ => ?_) fun _ _ h => h
  subst hv
  simp only [List.set_cons_succ, List.set_cons_zero]
  rw [sat_seq]
  unfold i_1
  rw [sat_if]
  simp only [tOr_ev, tNot_ev, tTru_ev, eFn_ev, aList_cons, aList_nil, eVar_s, eVar_0, bind_ok', L30 h hd hc, truD_bl, Bool.not_true, Bool.false_eq_true, if_false, sat_bind]
  refine (B32 h hd).imp (fun v S2 ⟨e2, c2, hv, hc2⟩ => ?_) fun _ _ h => h
  subst hv
  simp only [L30 h hd hc2, bind_ok', truD_bl, sat_ok, Bool.not_true, Bool.false_eq_true, if_false, sat_next]
  unfold i_2
  rw [sat_if]
  simp only [tOr_ev, tOf_ev, eBin_ev, eFn_ev, aList_cons, aList_nil, eVar_s, eVar_0, bind_ok', sat_bind]
  refine (B32 h hd).imp (fun v S3 ⟨e3, c3, hv, hc3⟩ => ?_) fun _ _ h => h
  subst hv
  have k1 : CondAt S3 c F := (hc.ext e2).ext e3
  simp only [cmp_ne (n := 30) h h (by omega) k1 hc3, fq_self, Bool.not_true, sat_ok, Bool.false_eq_true, if_false, cmp_fd (n := 29) (G := F) k1, bind_ok', tNot_ev, tOf_ev, eBin_ev, eFn_ev, aList_cons, aList_nil, eVar_s, eVar_0, sat_bind]
  refine (R24 ht).imp (fun v S4 ⟨e4, c4, hv, hc4⟩ => ?_) fun _ _ h => h
  subst hv
  simp only [cmp_eq (n := 30) h h (by omega) (k1.ext e4) hc4, fq_self, Bool.not_true, sat_ok, Bool.false_eq_true, if_false, sat_next]
  exact ⟨((e1.trans e2).trans e3).trans e4, _, rfl⟩
theorem u2_ok {R : D → Store → Prop} {B C : En → Store → Prop} {ls : List (List Nat)} (h : FOk F) (hd : dp F ≤ 5) (ht : ∀ l ∈ ls, TextOk F l) (hl : ls.length < 100) :
    (u_2 (run 30) [o0, o1, o2, o3, some (fd F), some (.lv (ls.map D.str)), o6, o7, o8, o9, o10, o11, o12, o13, o14, o15] S).sat
      ⟨fun σ S2 => Ext S S2 ∧ ∃ o6 o7, σ = [o0, o1, o2, o3, some (fd F), some (.lv (ls.map D.str)), o6, o7, o8, o9, o10, o11, o12, o13, o14, o15], R, E, B, C⟩ := by
  unfold u_2
  refine for_sat (ds := ls.map D.str) (S1 := S) (fun ds σ S2 => Ext S S2 ∧ ∃ us o6 o7, ds = us.map D.str ∧ (∀ l ∈ us, TextOk F l) ∧ σ = [o0, o1, o2, o3, some (fd F), some (.lv (ls.map D.str)), o6, o7, o8, o9, o10, o11, o12, o13, o14, o15]) (walk_list (d := .lv (ls.map D.str)) rfl rfl) (by rw [List.length_map]; omega) ⟨Ext.refl S, ls, o6, o7, rfl, ht, rfl⟩ ?_ ?_
  · rintro d ds σ S1 ⟨e, us, o6, o7, hds, hus, rfl⟩
    cases us with
    | nil => cases hds
    | cons x us =>
      rw [List.map_cons] at hds
      obtain ⟨rfl, rfl⟩ := List.cons.inj hds
      simp only [gName_ev, sat_ok, List.set_cons_succ, List.set_cons_zero]
      refine (told_ok (R := R) (E := E) (B := fun _ _ => False) (C := fun _ _ => False) h hd (hus x (by simp))).imp (fun σ S2 ⟨e2, o7', hσ⟩ => ?_) (fun _ _ h => h) (fun _ _ h => h) (fun _ _ h => h.elim) fun _ _ h => h.elim
      exact ⟨e.trans e2, us, _, _, rfl, fun l hl => hus l (by simp [hl]), hσ⟩
  · rintro σ S1 ⟨e, us, o6, o7, hds, hus, rfl⟩
    exact ⟨e, o6, o7, rfl⟩
theorem trn_ok {R : D → Store → Prop} {B C : En → Store → Prop} (hp : Pool S i) :
    (sSeq (u_0 (run 30)) (sSeq (u_1 (run 30)) (sSeq (u_2 (run 30)) (sSeq (u_3 (run 30)) (u_4 (run 30))))) [o0, o1, some (.ref i), o3, o4, o5, o6, o7, o8, o9, o10, o11, o12, o13, o14, o15] S).sat
      ⟨fun σ S2 => Pool S2 i ∧ ∃ o4 o5 o6 o7 o8, σ = [o0, o1, some (.ref i), o3, o4, o5, o6, o7, o8, o9, o10, o11, o12, o13, o14, o15], R, E, B, C⟩ := by
  rw [sat_seq]
  unfold u_0
  rw [sat_set]
  simp only [eFn_ev, aList_cons, aList_nil, eVar_s, eVar_0, eC_ev, bind_ok']
  refine (form_ok 3 24 S hp).imp (fun v S1 ⟨⟨F, hv, hF, hd⟩, hp1, f1⟩ => ?_) fun _ _ h => h
  subst hv
  simp only [List.set_cons_succ, List.set_cons_zero]
  rw [sat_seq]
  unfold u_1
  rw [sat_set, eLv_ev]
  rw [aList_cons, words_text (F := F) rfl hF (by omega)]
  simp only [bind_ok', aList_cons, aList_nil, eFn_ev, eVar_s, eVar_0, sat_bind]
  refine (more_ok (n := 20) hp1 hF (by omega)).imp (fun v S2 ⟨⟨j, hj, hv⟩, hp2, f2⟩ => ?_) fun _ _ h => h
  subst hv
  have hg := ((wds_gr F 0 hF (by omega)).brk j).up (e := 6) (by omega)
  have hl := wds_len' F 0 (by omega)
  have hb := brk_len (w := wds F 0) j
  refine (text_ok (n := 28) (ws := brk j (wds F 0)) hg.voc (by omega) hp2).imp (fun v S3 ⟨⟨ps, hv, hps, h1, h2⟩, hp3, f3⟩ => ?_) fun _ _ h => h
  subst hv
  simp only [sat_ok, List.set_cons_succ, List.set_cons_zero]
  have ht : ∀ l ∈ [TL.joinL [32] (wds F 0), txtOf ps], TextOk F l := fun l hl' => by
    rcases List.mem_cons.mp hl' with rfl | hl'
    · exact words_ok' hF (by omega)
    · rw [List.mem_singleton] at hl'
      subst hl'
      refine ⟨ps, rfl, h1, h2, ?_, by rw [hps]; exact hg⟩
      have := congrArg List.length hps
      rw [List.length_map] at this
      omega
  rw [sat_seq]
  refine (u2_ok (R := R) (E := E) (B := B) (C := C) (ls := [TL.joinL [32] (wds F 0), txtOf ps]) hF (by omega) ht (by simp)).imp (fun σ S4 ⟨e4, o6', o7', hσ⟩ => ?_) (fun _ _ h => h) (fun _ _ h => h) (fun _ _ h => h) fun _ _ h => h
  subst hσ
  have hp4 := pool_ext hp3 e4
  dsimp only
  rw [sat_seq]
  unfold u_3
  rw [sat_set]
  simp only [eFn_ev, aList_cons, aList_nil, eVar_s, eVar_0, eC_ev, bind_ok']
  refine (form_ok 2 25 S4 hp4).imp (fun v S5 ⟨⟨M, hv, hM, hdM⟩, hp5, f5⟩ => ?_) fun _ _ h => h
  subst hv
  simp only [List.set_cons_succ, List.set_cons_zero]
  unfold u_4
  rw [sat_if, tOf_ev, eBin_ev, eBin_ev, eFn_ev, aList_cons, words_text (F := M) rfl hM (by omega)]
  simp only [bind_ok', aList_nil, sat_bind]
  refine (R24 (words_ok' hM (by omega))).imp (fun v S6 ⟨e6, c, hv, hc⟩ => ?_) fun _ _ h => h
  subst hv
  simp only [eFn_ev, aList_cons, aList_nil, eVar_s, eVar_0, bind_ok', sat_bind]
  refine (B32 hF (by omega)).imp (fun v S7 ⟨e7, c2, hv, hc2⟩ => ?_) fun _ _ h => h
  subst hv
  have e8 : oNe (run 30) (.bl (fq M F)) (.bl (fq M F)) S7 = .ok (.bl false) S7 := neF_self 0 rfl
  simp only [cmp_eq (n := 30) hM hF (by omega) (hc.ext e7) hc2, sat_ok, eBin_ev, eVar_s, eVar_0, bind_ok', cmp_ff (call := run 30) hM hF (by omega) (by omega), e8, Bool.false_eq_true, if_false, sat_next]
  exact ⟨pool_ext (pool_ext hp5 e6) e7, _, _, _, _, _, rfl⟩
end
end L2.Mi.Pg

set_option Elab.async false
set_option linter.all false
set_option maxRecDepth 100000
set_option maxHeartbeats 1000000
namespace L2.Mi.Pg
open PySem
section
variable {S : Store} {i : Nat} {F A B C : Form} {E : Xn → Store → Prop}
theorem wds_leaf (h : dp F = 0) (r : Nat) : wds F r = wds F 0 := by
  cases F with
  | any => rfl
  | nt f => exact absurd h (by unfold dp; omega)
  | an f g => exact absurd h (by unfold dp; omega)
  | or f g => exact absurd h (by unfold dp; omega)
  | atm k v => rfl
theorem leaf_gr (h : FOk F) (hd : dp F = 0) : Gr 2 0 .any (wds F 0) F := by
  have z := wds_gr F 2 h (by omega)
  rwa [hd, wds_leaf hd] at z
theorem leaf_ne (h : dp F = 0) : wds F 0 ≠ [] := by
  cases F with
  | any => simp [wds]
  | nt f => exact absurd h (by unfold dp; omega)
  | an f g => exact absurd h (by unfold dp; omega)
  | or f g => exact absurd h (by unfold dp; omega)
  | atm k v => simp [wds]
theorem leaf_len (h : dp F = 0) : (wds F 0).length ≤ 2 := by
  have z := wds_len F 0
  rw [h] at z
  omega
/-- a text of a leaf -/
abbrev tx (F : Form) : List Nat := TL.joinL [32] (wds F 0)
theorem tx_len (h : FOk F) (hd : dp F = 0) : (tx F).length ≤ 100 := by
  have hg := (leaf_gr h hd)
  obtain ⟨h1, h2⟩ := jp_ok hg.voc
  obtain ⟨l1, _⟩ := txtOf_len h1
  have e := joinL_jp (wds F 0)
  have l2 : (jp (wds F 0)).length = (wds F 0).length := by
    have := congrArg List.length (jp_w (wds F 0))
    rwa [List.length_map] at this
  have l3 := leaf_len hd
  show (TL.joinL [32] (wds F 0)).length ≤ 100
  rw [e]
  omega
theorem join_app : ∀ {x y : List (List Nat)}, x ≠ [] → y ≠ [] → TL.joinL [32] (x ++ y) = TL.joinL [32] x ++ 32 :: TL.joinL [32] y
  | [], y, h, _ => absurd rfl h
  | [a], [], _, h => absurd rfl h
  | [a], b :: y, _, _ => by simp [TL.joinL]
  | a :: b :: x, y, _, h => by
    have z := join_app (x := b :: x) (y := y) (by simp) h
    simp only [List.cons_append, TL.joinL] at z ⊢
    rw [z]
    simp
theorem join_cons {a : List Nat} {y : List (List Nat)} (h : y ≠ []) : TL.joinL [32] (a :: y) = a ++ 32 :: TL.joinL [32] y := by
  have z := join_app (x := [a]) (y := y) (by simp) h
  simpa [TL.joinL] using z
/-- what the links tell -/
def lk (b : Bool) : List Nat := if b then wAND else wOR
def LK (b : Bool) (A B C : Form) : Form := if b then .an (.an A B) C else .or (.or A B) C
theorem LK_ok (b : Bool) (hA : FOk A) (hB : FOk B) (hC : FOk C) (dA : dp A = 0) (dB : dp B = 0) (dC : dp C = 0) : FOk (LK b A B C) ∧ dp (LK b A B C) ≤ 5 := by
  cases b with
  | true => exact ⟨⟨⟨hA, hB⟩, hC⟩, by show max (max (dp A) (dp B) + 1) (dp C) + 1 ≤ 5; omega⟩
  | false => exact ⟨⟨⟨hA, hB⟩, hC⟩, by show max (max (dp A) (dp B) + 1) (dp C) + 1 ≤ 5; omega⟩
theorem LK_fd (b : Bool) : fd (LK b A B C) = .tup [.str (lk b), .tup [.str (lk b), fd A, fd B], fd C] := by cases b <;> rfl
theorem LK_text (b : Bool) (hA : FOk A) (hB : FOk B) (hC : FOk C) (dA : dp A = 0) (dB : dp B = 0) (dC : dp C = 0) : TextOk (LK b A B C) (TL.joinL (32 :: (lk b ++ [32])) [tx A, tx B, tx C]) := by
  have nA := leaf_ne dA
  have nB := leaf_ne dB
  have nC := leaf_ne dC
  have e : TL.joinL (32 :: (lk b ++ [32])) [tx A, tx B, tx C] = TL.joinL [32] ((wds A 0 ++ lk b :: wds B 0) ++ lk b :: wds C 0) := by
    rw [join_app (by simp) (by simp), join_app nA (by simp), join_cons nB, join_cons nC]
    simp [TL.joinL]
  rw [e]
  have lA := leaf_len dA
  have lB := leaf_len dB
  have lC := leaf_len dC
  refine joined_ok ?_ (by simp; omega)
  cases b with
  | true => exact ((((leaf_gr hA dA).to1.and (leaf_gr hB dB)).and (leaf_gr hC dC)).to0).up (by omega)
  | false => exact (((leaf_gr hA dA).to1.to0.or (leaf_gr hB dB).to1).or (leaf_gr hC dC).to1).up (by omega)
def LO (A B C : Form) : Form := .or A (.an (.nt B) C)
theorem LO_ok (hA : FOk A) (hB : FOk B) (hC : FOk C) (dA : dp A = 0) (dB : dp B = 0) (dC : dp C = 0) : FOk (LO A B C) ∧ dp (LO A B C) ≤ 5 := ⟨⟨hA, hB, hC⟩, by show max (dp A) (max (dp B + 1) (dp C) + 1) + 1 ≤ 5; omega⟩
theorem LO_text (hA : FOk A) (hB : FOk B) (hC : FOk C) (dA : dp A = 0) (dB : dp B = 0) (dC : dp C = 0) : TextOk (LO A B C) ((((tx A ++ [32, 111, 114, 32, 110, 111, 116, 32]) ++ tx B) ++ [32, 97, 110, 100, 32]) ++ tx C) := by
  have nA := leaf_ne dA
  have nB := leaf_ne dB
  have nC := leaf_ne dC
  have e : ((((tx A ++ [32, 111, 114, 32, 110, 111, 116, 32]) ++ tx B) ++ [32, 97, 110, 100, 32]) ++ tx C) = TL.joinL [32] (wds A 0 ++ wOR :: (wNOT :: wds B 0 ++ wAND :: wds C 0)) := by
    rw [join_app nA (by simp), join_cons (by simp), join_app (by simp) (by simp), join_cons nB, join_cons nC]
    simp
  rw [e]
  have lA := leaf_len dA
  have lB := leaf_len dB
  have lC := leaf_len dC
  refine joined_ok ?_ (by simp; omega)
  have h1 : Gr 2 1 .any (wNOT :: wds B 0) (.nt B) := .nt (leaf_gr hB dB)
  have h2 := h1.to1.and ((leaf_gr hC dC).up (e := 1) (by omega))
  exact (((leaf_gr hA dA).to1.to0.up (e := 1) (by omega)).or h2).up (by omega)
variable {o0 o1 o2 o3 o4 o5 o6 o7 o8 o9 o10 o11 o12 o13 o14 o15 : Option D}
/-- a leaf drawn -/
theorem leaf_ok {σ : En} (h2 : ∀ S, eVar 2 σ S = .ok (.ref i) S) (hp : Pool S i) : (eBin itemF (eFn (run 30 27) (aList [eVar 2])) (eFn (run 30 26) (aList [eVar 2, eC (.int 7)])) σ S).sat (fun d S2 => FmQ 0 d ∧ Pool S2 i) E := by
  simp only [eBin_ev, eFn_ev, aList_cons, aList_nil, h2, eC_ev, bind_ok', sat_bind]
  refine (atoms_ok (n := 28) hp).imp (fun a S2 ⟨q, ds, ha, hq, hl, hd, hqi, hp2, f2⟩ => ?_) fun _ _ h => h
  subst ha
  refine draw_int (n := 29) hp2 (by omega) (by omega) fun r2 S3 x0 x1 hp3 f3 => ?_
  have hq3 : S3.get q = some (.lst ds) := f3.get hq hqi
  have hr : r2.toNat < ds.length := by omega
  have ei : itemF (.ref q) (.int r2) S3 = .ok ds[r2.toNat] S3 := by
    have z := atI_nat (xs := ds) (k := r2.toNat) (x := ds[r2.toNat]) (List.getElem?_eq_getElem hr)
    rw [Int.toNat_of_nonneg x0] at z
    exact itemF_seq (xs := ds) (seqAt_list (listAt_ref hq3)) z
  rw [ei]
  exact ⟨hd _ (List.getElem_mem hr), hp3⟩
theorem w0_ok {R : D → Store → Prop} {B C : En → Store → Prop} (hp : Pool S i) : (w_0 (run 30) [o0, o1, some (.ref i), o3, o4, o5, o6, o7, o8, o9, o10, o11, o12, o13, o14, o15] S).sat
    ⟨fun σ S2 => Pool S2 i ∧ ∃ X Y Z, (FOk X ∧ dp X = 0) ∧ (FOk Y ∧ dp Y = 0) ∧ (FOk Z ∧ dp Z = 0) ∧ σ = [o0, o1, some (.ref i), o3, o4, o5, o6, o7, o8, some (fd X), some (fd Y), some (fd Z), o12, o13, o14, o15], R, E, B, C⟩ := by
  unfold w_0
  rw [sat_asg]
  have lc : (eLcV (iRange1 (eC (.int 3))) (.one 3) (tYesM) (eBin itemF (eFn (run 30 27) (aList [eVar 2])) (eFn (run 30 26) (aList [eVar 2, eC (.int 7)]))) [3] 100000 [o0, o1, some (.ref i), o3, o4, o5, o6, o7, o8, o9, o10, o11, o12, o13, o14, o15] S).sat (fun d S2 => Pool S2 i ∧ ∃ fs : List Form, d = .lv (fs.map fd) ∧ fs.length = 3 ∧ ∀ F ∈ fs, FOk F ∧ dp F ≤ 0) E := by
    refine lc_sat (ds := ups 0 (3 : Int).toNat) (S1 := S) (fun ds acc S2 => Pool S2 i ∧ ∃ fs : List Form, acc = fs.map fd ∧ fs.length + ds.length = 3 ∧ ∀ F ∈ fs, FOk F ∧ dp F ≤ 0) (walk_r1 (j := 3) rfl (by omega) (by omega)) (by rw [ups_len]; decide) ⟨hp, [], rfl, by rw [ups_len]; rfl, fun r h => absurd h List.not_mem_nil⟩ ?_ ?_
    · rintro d ds acc S2 ⟨hp2, fs, rfl, hl, hr⟩
      refine ⟨_, rfl, ?_⟩
      show (Res.ok true S2).sat _ _
      rw [sat_ok, if_pos rfl]
      refine (leaf_ok (E := NoX) (fun _ => rfl) hp2).imp (fun x S3 ⟨⟨F, hx, hF, hd⟩, hp3⟩ => ?_) fun _ _ h => h
      subst hx
      rw [List.length_cons] at hl
      refine ⟨by rw [List.length_map]; have := lim_big; omega, hp3, fs ++ [F], by simp, by simp; omega, fun r' h' => ?_⟩
      rcases List.mem_append.mp h' with h' | h'
      · exact hr r' h'
      · rw [List.mem_singleton] at h'
        exact h' ▸ ⟨hF, hd⟩
    · rintro acc S2 ⟨hp2, fs, rfl, hl, hr⟩
      exact ⟨hp2, fs, rfl, by simpa using hl, hr⟩
  refine lc.imp (fun d S2 ⟨hp2, fs, hd, hl, hr⟩ => ?_) fun _ _ h => h
  subst hd
  match fs, hl with
  | [X, Y, Z], _ =>
    have hX := hr X (by simp)
    have hY := hr Y (by simp)
    have hZ := hr Z (by simp)
    have g : gLstT [gName 9, gName 10, gName 11] (.lv ([X, Y, Z].map fd)) [o0, o1, some (.ref i), o3, o4, o5, o6, o7, o8, o9, o10, o11, o12, o13, o14, o15] S2 = .ok [o0, o1, some (.ref i), o3, o4, o5, o6, o7, o8, some (fd X), some (fd Y), some (fd Z), o12, o13, o14, o15] S2 := rfl
    rw [g, sat_ok]
    exact ⟨hp2, X, Y, Z, ⟨hX.1, by omega⟩, ⟨hY.1, by omega⟩, ⟨hZ.1, by omega⟩, rfl⟩
theorem w1_ok {R : D → Store → Prop} {B' C' : En → Store → Prop} (hA : FOk A) (hB : FOk B) (hC : FOk C) (dA : dp A = 0) (dB : dp B = 0) (dC : dp C = 0) : (w_1 (run 30) [o0, o1, o2, o3, o4, o5, o6, o7, o8, some (fd A), some (fd B), some (fd C), o12, o13, o14, o15] S).sat
    ⟨fun σ S2 => S2 = S ∧ σ = [o0, o1, o2, o3, o4, o5, o6, o7, o8, some (fd A), some (fd B), some (fd C), some (.lv ([tx A, tx B, tx C].map D.str)), o13, o14, o15], R, E, B', C'⟩ := by
  unfold w_1
  rw [sat_set]
  have lc : (eLcV (iOr (iSeq (eLv [eVar 9, eVar 10, eVar 11])) (iTxt (eLv [eVar 9, eVar 10, eVar 11]))) (.one 4) (tYesM) (eBm isStr joinF (eC (.str [32])) (aList [eFn (run 30 29) (aList [eVar 4, eC (.int 0)])])) [4] 100000 [o0, o1, o2, o3, o4, o5, o6, o7, o8, some (fd A), some (fd B), some (fd C), o12, o13, o14, o15] S).sat (fun d S2 => S2 = S ∧ d = .lv ([A, B, C].map fun F => .str (tx F))) E := by
    refine lc_sat (ds := [A, B, C].map fd) (S1 := S) (fun ds acc S2 => S2 = S ∧ ∃ us vs : List Form, ds = us.map fd ∧ acc = vs.map (fun F => .str (tx F)) ∧ [A, B, C] = vs ++ us) (walk_list (d := .lv ([A, B, C].map fd)) rfl rfl) (by simp) ⟨rfl, [A, B, C], [], rfl, rfl, rfl⟩ ?_ ?_
    · rintro d ds acc S2 ⟨rfl, us, vs, hds, rfl, hs⟩
      cases us with
      | nil => cases hds
      | cons F us =>
        rw [List.map_cons] at hds
        obtain ⟨rfl, rfl⟩ := List.cons.inj hds
        refine ⟨_, rfl, ?_⟩
        show (Res.ok true S2).sat _ _
        rw [sat_ok, if_pos rfl]
        have hm : F ∈ [A, B, C] := by rw [hs]; simp
        have hF : FOk F ∧ dp F = 0 := by
          simp only [List.mem_cons, List.not_mem_nil, or_false] at hm
          rcases hm with rfl | rfl | rfl
          · exact ⟨hA, dA⟩
          · exact ⟨hB, dB⟩
          · exact ⟨hC, dC⟩
        rw [words_text (F := F) rfl hF.1 (by omega), sat_ok]
        have hlen := congrArg List.length hs
        rw [List.length_append, List.length_cons] at hlen
        exact ⟨by rw [List.length_map]; have := lim_big; simp at hlen; omega, rfl, us, vs ++ [F], rfl, by simp, by simp [hs]⟩
    · rintro acc S2 ⟨rfl, us, vs, hds, rfl, hs⟩
      have hn : us = [] := by cases us with | nil => rfl | cons _ _ => cases hds
      subst hn
      rw [List.append_nil] at hs
      subst hs
      exact ⟨rfl, rfl⟩
  refine lc.imp (fun d S2 ⟨h1, h2⟩ => ?_) fun _ _ h => h
  subst h1 h2
  exact ⟨rfl, rfl⟩
theorem w2_ok {R : D → Store → Prop} {B' C' : En → Store → Prop} (hA : FOk A) (hB : FOk B) (hC : FOk C) (dA : dp A = 0) (dB : dp B = 0) (dC : dp C = 0) : (w_2 (run 30) [o0, o1, o2, o3, o4, o5, o6, o7, o8, some (fd A), some (fd B), some (fd C), some (.lv ([tx A, tx B, tx C].map D.str)), o13, o14, o15] S).sat
    ⟨fun σ S2 => ∃ o13 o14, σ = [o0, o1, o2, o3, o4, o5, o6, o7, o8, some (fd A), some (fd B), some (fd C), some (.lv ([tx A, tx B, tx C].map D.str)), o13, o14, o15], R, E, B', C'⟩ := by
  unfold w_2
  have lA := tx_len hA dA
  have lB := tx_len hB dB
  have lC := tx_len hC dC
  refine for_sat (ds := [true, false].map fun b => D.str (lk b)) (S1 := S) (fun ds σ _ => ∃ (us : List Bool) (o13 o14 : Option D), ds = us.map (fun b => D.str (lk b)) ∧ σ = [o0, o1, o2, o3, o4, o5, o6, o7, o8, some (fd A), some (fd B), some (fd C), some (.lv ([tx A, tx B, tx C].map D.str)), o13, o14, o15]) (walk_list (d := .lv ([true, false].map fun b => D.str (lk b))) rfl rfl) (by simp) ⟨[true, false], _, _, rfl, rfl⟩ ?_ ?_
  · rintro d ds σ S1 ⟨us, o13, o14, hds, rfl⟩
    cases us with
    | nil => cases hds
    | cons b us =>
      rw [List.map_cons] at hds
      obtain ⟨rfl, rfl⟩ := List.cons.inj hds
      simp only [gName_ev, sat_ok, List.set_cons_succ, List.set_cons_zero]
      rw [sat_seq]
      unfold x_0
      rw [sat_set]
      simp only [eTup_ev, aList_cons, aList_nil, eVar_s, eVar_0, bind_ok', sat_ok, List.set_cons_succ, List.set_cons_zero]
      unfold x_1
      rw [sat_if, ← LK_fd b]
      have hl : (lk b).length ≤ 3 := by cases b <;> simp [lk]
      have e1 : oAdd (run 30) (.str [32]) (.str (lk b)) S1 = .ok (.str (32 :: lk b)) S1 := add_ss (by simp; omega)
      have e2 : oAdd (run 30) (.str (32 :: lk b)) (.str [32]) S1 = .ok (.str (32 :: (lk b ++ [32]))) S1 := add_ss (by simp; omega)
      have ej : eBm isStr joinF (eBin (oAdd (run 30)) (eBin (oAdd (run 30)) (eC (.str [32])) (eVar 13)) (eC (.str [32]))) (aList [eVar 12]) [o0, o1, o2, o3, o4, o5, o6, o7, o8, some (fd A), some (fd B), some (fd C), some (.lv ([tx A, tx B, tx C].map D.str)), some (.str (lk b)), some (fd (LK b A B C)), o15] S1 = .ok (.str (TL.joinL (32 :: (lk b ++ [32])) [tx A, tx B, tx C])) S1 := by
        refine join_ev (ws := [tx A, tx B, tx C]) (d := .lv ([tx A, tx B, tx C].map D.str)) ?_ rfl rfl ?_
        · simp only [eBin_ev, eC_ev, eVar_s, eVar_0, bind_ok', e1, e2]
        · simp only [totL, List.map_cons, List.map_nil, List.sum_cons, List.sum_nil, List.length_cons, List.length_append, List.length_nil]
          omega
      obtain ⟨h1, h2⟩ := LK_ok b hA hB hC dA dB dC
      rw [tNot_ev, tTru_ev, eFn_ev, aList_cons, eFn_ev, aList_cons, ej]
      simp only [bind_ok', aList_cons, aList_nil, eVar_s, eVar_0, sat_bind]
      refine (R24 (LK_text b hA hB hC dA dB dC)).imp (fun v S2 ⟨e, c, hv, hc⟩ => ?_) fun _ _ h => h
      subst hv
      simp only [L30 h1 h2 hc, bind_ok', truD_bl, sat_ok, Bool.not_true, Bool.false_eq_true, if_false, sat_next]
      exact ⟨us, _, _, rfl, rfl⟩
  · rintro σ S1 ⟨us, o13, o14, hds, rfl⟩
    exact ⟨o13, o14, rfl⟩
theorem w34_ok {R : D → Store → Prop} {B' C' : En → Store → Prop} (hA : FOk A) (hB : FOk B) (hC : FOk C) (dA : dp A = 0) (dB : dp B = 0) (dC : dp C = 0) : (sSeq (w_3 (run 30)) (w_4 (run 30)) [o0, o1, o2, o3, o4, o5, o6, o7, o8, some (fd A), some (fd B), some (fd C), some (.lv ([tx A, tx B, tx C].map D.str)), o13, o14, o15] S).sat
    ⟨fun σ S2 => ∃ o12 o15, σ = [o0, o1, o2, o3, o4, o5, o6, o7, o8, some (fd A), some (fd B), some (fd C), o12, o13, o14, o15], R, E, B', C'⟩ := by
  have lA := tx_len hA dA
  have lB := tx_len hB dB
  have lC := tx_len hC dC
  rw [sat_seq]
  unfold w_3
  rw [sat_set]
  have i0 : itemF (.lv ([tx A, tx B, tx C].map D.str)) (.int 0) S = .ok (.str (tx A)) S := itemF_seq (xs := [tx A, tx B, tx C].map D.str) rfl (atI_nat (k := 0) rfl)
  have i1 : itemF (.lv ([tx A, tx B, tx C].map D.str)) (.int 1) S = .ok (.str (tx B)) S := itemF_seq (xs := [tx A, tx B, tx C].map D.str) rfl (atI_nat (k := 1) rfl)
  have i2 : itemF (.lv ([tx A, tx B, tx C].map D.str)) (.int 2) S = .ok (.str (tx C)) S := itemF_seq (xs := [tx A, tx B, tx C].map D.str) rfl (atI_nat (k := 2) rfl)
  have a1 : oAdd (run 30) (.str (tx A)) (.str [32, 111, 114, 32, 110, 111, 116, 32]) S = .ok (.str (tx A ++ [32, 111, 114, 32, 110, 111, 116, 32])) S := add_ss (by simp; omega)
  have a2 : oAdd (run 30) (.str (tx A ++ [32, 111, 114, 32, 110, 111, 116, 32])) (.str (tx B)) S = .ok (.str ((tx A ++ [32, 111, 114, 32, 110, 111, 116, 32]) ++ tx B)) S := add_ss (by simp only [List.length_append, List.length_cons, List.length_nil]; omega)
  have a3 : oAdd (run 30) (.str ((tx A ++ [32, 111, 114, 32, 110, 111, 116, 32]) ++ tx B)) (.str [32, 97, 110, 100, 32]) S = .ok (.str (((tx A ++ [32, 111, 114, 32, 110, 111, 116, 32]) ++ tx B) ++ [32, 97, 110, 100, 32])) S := add_ss (by simp only [List.length_append, List.length_cons, List.length_nil]; omega)
  have a4 : oAdd (run 30) (.str (((tx A ++ [32, 111, 114, 32, 110, 111, 116, 32]) ++ tx B) ++ [32, 97, 110, 100, 32])) (.str (tx C)) S = .ok (.str ((((tx A ++ [32, 111, 114, 32, 110, 111, 116, 32]) ++ tx B) ++ [32, 97, 110, 100, 32]) ++ tx C)) S := add_ss (by simp only [List.length_append, List.length_cons, List.length_nil]; omega)
  simp only [eFn_ev, aList_cons, aList_nil, eBin_ev, eVar_s, eVar_0, eC_ev, bind_ok', i0, i1, i2, a1, a2, a3, a4]
  refine (R24 (LO_text hA hB hC dA dB dC)).imp (fun v S2 ⟨e, c, hv, hc⟩ => ?_) fun _ _ h => h
  subst hv
  simp only [List.set_cons_succ, List.set_cons_zero]
  obtain ⟨h1, h2⟩ := LO_ok hA hB hC dA dB dC
  unfold w_4
  rw [sat_if]
  have el : run 30 30 [.ref c, .tup [.str [111, 114], fd A, .tup [.str [97, 110, 100], .tup [.str [110, 111, 116], fd B], fd C]]] S2 = .ok (.bl true) S2 := L30 h1 h2 hc
  simp only [tNot_ev, tTru_ev, eFn_ev, aList_cons, aList_nil, eTup_ev, eVar_s, eVar_0, eC_ev, bind_ok', el, truD_bl, sat_ok, Bool.not_true, Bool.false_eq_true, if_false, sat_next]
  exact ⟨_, _, rfl⟩
/-- a round -/
theorem v1_ok {R : D → Store → Prop} {B C : En → Store → Prop} (hp : Pool S i) : (v_1 (run 30) [o0, o1, some (.ref i), o3, o4, o5, o6, o7, o8, o9, o10, o11, o12, o13, o14, o15] S).sat
    ⟨fun σ S2 => Pool S2 i ∧ ∃ o3 o4 o5 o6 o7 o8, σ = [o0, o1, some (.ref i), o3, o4, o5, o6, o7, o8, o9, o10, o11, o12, o13, o14, o15], R, E, B, C⟩ := by
  unfold v_1
  refine for_sat (ds := ups 0 (5 : Int).toNat) (S1 := S) (fun ds σ S2 => Pool S2 i ∧ ∃ o3 o4 o5 o6 o7 o8, σ = [o0, o1, some (.ref i), o3, o4, o5, o6, o7, o8, o9, o10, o11, o12, o13, o14, o15]) (walk_r1 (j := 5) rfl (by omega) (by omega)) (by rw [ups_len]; decide) ⟨hp, _, _, _, _, _, _, rfl⟩ ?_ ?_
  · rintro d ds σ S1 ⟨hp1, o3, o4, o5, o6, o7, o8, rfl⟩
    simp only [gName_ev, sat_ok, List.set_cons_succ, List.set_cons_zero]
    refine (trn_ok (R := R) (E := E) (B := fun _ _ => False) (C := fun _ _ => False) hp1).imp (fun σ S2 ⟨hp2, o4', o5', o6', o7', o8', hσ⟩ => ?_) (fun _ _ h => h) (fun _ _ h => h) (fun _ _ h => h.elim) fun _ _ h => h.elim
    exact ⟨hp2, _, _, _, _, _, _, hσ⟩
  · rintro σ S1 ⟨hp1, o3, o4, o5, o6, o7, o8, rfl⟩
    exact ⟨hp1, _, _, _, _, _, _, rfl⟩
theorem round_ok {ns : List Int} {k : Nat} {R : D → Store → Prop} {B C : En → Store → Prop} (hk : k < 1000) (hl : ns.length ≤ 1000) : (rb (run 30) [some (.fl (ns.map D.int)), some (.int (k : Int)), o2, o3, o4, o5, o6, o7, o8, o9, o10, o11, o12, o13, o14, o15] S).sat
    ⟨fun σ _ => ∃ o1 o2 o3 o4 o5 o6 o7 o8 o9 o10 o11 o12 o13 o14 o15, σ = [some (.fl (ns.map D.int)), o1, o2, o3, o4, o5, o6, o7, o8, o9, o10, o11, o12, o13, o14, o15], R, E, B, C⟩ := by
  unfold rb
  rw [sat_seq]
  unfold v_0
  rw [sat_set]
  simp only [eFn_ev, aList_cons, aList_nil, eVar_s, eVar_0, bind_ok']
  refine (pl (n := 29) hk hl).imp (fun v S1 ⟨hv, hp1, _, _⟩ => ?_) fun _ _ h => h
  subst hv
  simp only [List.set_cons_succ, List.set_cons_zero]
  rw [sat_seq]
  refine (v1_ok (R := R) (E := E) (B := B) (C := C) hp1).imp (fun σ S2 ⟨hp2, o3', o4', o5', o6', o7', o8', hσ⟩ => ?_) (fun _ _ h => h) (fun _ _ h => h) (fun _ _ h => h) fun _ _ h => h
  subst hσ
  dsimp only
  rw [sat_seq]
  refine (w0_ok (R := R) (E := E) (B := B) (C := C) hp2).imp (fun σ S3 ⟨hp3, X, Y, Z, hX, hY, hZ, hσ⟩ => ?_) (fun _ _ h => h) (fun _ _ h => h) (fun _ _ h => h) fun _ _ h => h
  subst hσ
  dsimp only
  rw [sat_seq]
  refine (w1_ok (R := R) (E := E) (B' := B) (C' := C) hX.1 hY.1 hZ.1 hX.2 hY.2 hZ.2).imp (fun σ S4 ⟨_, hσ⟩ => ?_) (fun _ _ h => h) (fun _ _ h => h) (fun _ _ h => h) fun _ _ h => h
  subst hσ
  dsimp only
  rw [sat_seq]
  refine (w2_ok (R := R) (E := E) (B' := B) (C' := C) hX.1 hY.1 hZ.1 hX.2 hY.2 hZ.2).imp (fun σ S5 ⟨o13', o14', hσ⟩ => ?_) (fun _ _ h => h) (fun _ _ h => h) (fun _ _ h => h) fun _ _ h => h
  subst hσ
  dsimp only
  refine (w34_ok (R := R) (E := E) (B' := B) (C' := C) hX.1 hY.1 hZ.1 hX.2 hY.2 hZ.2).imp (fun σ S6 ⟨o12', o15', hσ⟩ => ?_) (fun _ _ h => h) (fun _ _ h => h) (fun _ _ h => h) fun _ _ h => h
  subst hσ
  exact ⟨_, _, _, _, _, _, _, _, _, _, _, _, _, _, _, rfl⟩
theorem tl_ok {σ : En} : (tl (run 30) σ S).sat ⟨fun _ _ => False, fun d _ => d = .bl true, NoX, fun _ _ => False, fun _ _ => False⟩ := by
  unfold tl
  rw [sat_ret, eBin_ev]
  have hw := where_is (n := 27) (S := S) (E := NoX) [] List.nodup_nil (by simp) (F := .any) rfl
  obtain ⟨d, S2, e, _, c, hd, hc⟩ := sat_ex hw
  subst hd
  have e0 : eFn (kwF [] (run 30 36)) (aList []) σ S = .ok (.ref c) S2 := by
    rw [eFn_ev, aList_nil, bind_ok']
    exact e
  have hc : S2.get c = some (.ins 0 [(0, .tup [.str wANY])]) := hc
  rw [meth_ev (g := run 30 8) e0 hc rfl rfl]
  have e2 : run 30 8 [.ref c] S2 = .ok (.tup [.str wANY]) S2 := by
    show run (29 + 1) 8 [.ref c] S2 = _
    rw [run_8]
    unfold m_8
    simp only [sRet_ev, eUn_ev, eVar_0, bind_ok', form_at hc, fin_rt]
  have e3 : oEq (run 30) (.tup [.str wANY]) (.tup [.str [97, 110, 121]]) S2 = .ok (.bl true) S2 := oEq_self 1 (by rfl)
  simp only [aList_nil, bind_ok', e2, eTup_ev, aList_cons, eC_ev, e3, sat_ok]
end
end L2.Mi.Pg
namespace Law
open PySem L2.Mi L2.Mi.Pg
theorem good (ns : List Int) (hl : ns.length ≤ 63) (hb : ∀ z ∈ ns, Builtin.Int.intBits z ≤ 1048576) : ∃ S, bodyRun 16 (L2.Mi.Pg.m_35 (L2.Mi.Pg.run 30)) [.fl (ns.map D.int)] ⟨[]⟩ = .ok (.bl true) S := by
  have h : (fin (L2.Mi.Pg.m_35 (L2.Mi.Pg.run 30) [some (.fl (ns.map D.int)), none, none, none, none, none, none, none, none, none, none, none, none, none, none, none] ⟨[]⟩)).sat (fun d _ => d = .bl true) NoX := by
    refine sat_fin ?_
    obtain ⟨m, em, hm⟩ := rounds_ok (ns := ns) (σ := [none, none, none, none, none, none, none, none, none, none, none, none, none, none, none]) (S := ⟨[]⟩) (K := 6) (by omega) (by omega) (by omega)
    rw [m35, sat_seq]
    refine for_sat (fun ds σ S' => (∃ o1 o2 o3 o4 o5 o6 o7 o8 o9 o10 o11 o12 o13 o14 o15, σ = [some (.fl (ns.map D.int)), o1, o2, o3, o4, o5, o6, o7, o8, o9, o10, o11, o12, o13, o14, o15]) ∧ ∀ d ∈ ds, ∃ k : Nat, d = .int (k : Int) ∧ k < 1000) (walk_r1 em (by omega) (by omega)) (by rw [ups_len]; omega) ⟨⟨_, _, _, _, _, _, _, _, _, _, _, _, _, _, _, rfl⟩, fun d hd => ?_⟩ ?_ ?_
    · unfold ups at hd
      obtain ⟨z, hz, rfl⟩ := List.mem_map.mp hd
      have := List.mem_range.mp hz
      exact ⟨z, by simp, by omega⟩
    · rintro d ds σ S' ⟨⟨o1, o2, o3, o4, o5, o6, o7, o8, o9, o10, o11, o12, o13, o14, o15, rfl⟩, hd⟩
      obtain ⟨k, rfl, hk⟩ := hd d (by simp)
      simp only [gName_ev, sat_ok, List.set_cons_succ, List.set_cons_zero]
      exact (round_ok (R := fun _ _ => False) (E := fun _ _ => False) (B := fun _ _ => False) (C := fun _ _ => False) hk (by omega)).imp (fun σ S5 h => ⟨h, fun d hd' => hd d (by simp [hd'])⟩) (fun _ _ h => h.elim) (fun _ _ h => h.elim) (fun _ _ h => h.elim) (fun _ _ h => h.elim)
    · rintro σ S' ⟨⟨o1, o2, o3, o4, o5, o6, o7, o8, o9, o10, o11, o12, o13, o14, o15, rfl⟩, _⟩
      exact tl_ok.imp (fun _ _ h => h.elim) (fun _ _ h => h) (fun _ _ h => h.elim) (fun _ _ h => h.elim) (fun _ _ h => h.elim)
  obtain ⟨a, S, e, rfl⟩ := sat_ex h
  exact ⟨S, e⟩
end Law

open PySem PySem.W PySem.Calls PyProof.Rows L2.Mi
set_option maxRecDepth 100000 in
set_option maxHeartbeats 0 in
theorem PySem.Challenge.cw_farmisses_k82_texts_of_conditions_holds : PySem.Challenge.rw_farmisses_k82_texts_of_conditions.Holds := by
  w_on; o_law
  refine HandSHeadRun.head_any (r := OpenLaw.row PySem.Challenge.rw_farmisses_k82_texts_of_conditions) (q := view (OpenLaw.row PySem.Challenge.rw_farmisses_k82_texts_of_conditions).prog [37]) (H := L2.Mi.Pg.hk) (ob := L2.Mi.Pg.ob) (M := 20000) (loose := L2.Mi.Pg.loose) (d := HandSHeadRun.topDef (OpenLaw.row PySem.Challenge.rw_farmisses_k82_texts_of_conditions).prog 37) (kwd := []) L2.Mi.Pg.ob_eq
    (by kernel_rfl) (fun s => by kernel_rfl) L2.Mi.Pg.head (by kernel_rfl) (by kernel_rfl) (by kernel_rfl) (by rfl) (by first | assumption | decide +kernel) (by decide +kernel) ⟨rfl, rfl, rfl, rfl, rfl, by decide +kernel⟩ ?hw ?hc
  case hw => w_witness2
  case hc =>
    refine walkMH (hd := L2.Mi.Pg.hdn) (l := PySem.Challenge.rw_farmisses_k82_texts_of_conditions) (n := 63) (k := lv 30 + 2) (x := "_law_script") (L := L2.Mi.Pg.L) (run := bodyRun 16 (L2.Mi.Pg.m_35 (L2.Mi.Pg.run 30))) rfl (by decide) (by kernel_rfl) ⟨rfl, by decide, by decide⟩ rfl ?F Law.good
    intro w mg fa K c HD NS hmg0
    have hmg : mg ("law" : PySem.Str) = some (.ref fa) := by
      have e : (HandSHeadRun.topDef (OpenLaw.row PySem.Challenge.rw_farmisses_k82_texts_of_conditions).prog 37).name = ("law" : PySem.Str) := by kernel_rfl
      rw [← e]
      exact hmg0
    obtain ⟨M⟩ := c.fn 35 rfl
    have hv : M.dvs = [] := List.eq_nil_of_length_eq_zero (by rw [← (M.rd ⟨[], []⟩ fun _ => none).length]; rfl)
    have e := hmg.symm.trans (NS.glo c 0)
    cases e
    have b := L2.FunD.bindsA (ps := ["_law_script"]) (hv ▸ M.F) fun _ _ _ _ _ _ us hl => match us, hl with | [_], _ => rfl
    exact ⟨M.fd, fun s v => b s [v] rfl, fun base _ _ => L2.Mi.Pg.ok_35 NS HD 30 (L2.Mi.Pg.all NS HD 30) M⟩
#print axioms PySem.Challenge.cw_farmisses_k82_texts_of_conditions_holds

