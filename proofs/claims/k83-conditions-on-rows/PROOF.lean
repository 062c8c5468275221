import PyProof.Rows.All
import Wide.All
import OpenK.AllK
import Wide.FinOn
import KE.KExcInit
import HandS.ExcInit
import HandS.ExcField
import HandS.ExcIs
import HandS.MakeKw
import HandS.MakeKwOnly
import HandS.ForMost
import HandS.ForExc
import HandS.CallSlots
import HandS.Lambda
import HandS.Wide
import HandS.TupAny
import HandS.Style
import HandS.IsInst
import HandS.Walk
import HandS.TupLen
import KE.GoesMore
import HandS.Property
import HandS.Defaults
import HandS.Star
import KE.KOpsOwn
import KE.GoesEnum
import HandS.HeadNt
import HandS.HeadWalk
import HandS.Head2
import HandS.EndBits
import HandS.TryMany
import PyProof.ReprRoads
import HandS.TupMul
import HandS.Text
import HandS.Codes
import HandS.SetKeys
import HandS.SortKw
import HandS.DictComp
import KE.IntTextLaws
import HandS.ClsMeth
import HandS.FStr
import HandS.FStrTup
import HandS.RaiseMore
import HandS.EndTab
import PyProof.RulesMatch
import HandS.MethStar
import HandS.Deep
import HandS.SortInts
import HandS.More
import KE.GoesEnumKw
import KE.SortData
import PyProof.Rows.MatchSeqLen
import HandS.Strs
import KE.KParD
import HandS.Zip
import PySem.Challenge.RW_farmisses_k83_conditions_on_rows
set_option Elab.async false
set_option linter.all false
set_option maxRecDepth 100000
set_option maxHeartbeats 4000000
set_option Elab.async false
set_option linter.all false
set_option maxRecDepth 100000
set_option maxHeartbeats 4000000
namespace L2
open PySem PySem.Spec PyProof.Rows
structure OexG (K : PySem.W.Frag) (C : Addr) (B newId initId : String) (bmB : List Value) : Prop where
  cls : ∃ nm q N bs bm sn sub ab col dd k0 k1 k2 k3 k5, K.lookup C = some (excClassObj nm q C N bs bm true sn sub ab col dd k0 k1 k2 k3 k5 newId) ∧ PySem.W.excTail bmB bm = true
  sa : PySem.W.findIn K (.ref C) "__setattr__" = some (some (.builtin "object.__setattr__"))
  kC : PySem.W.keepIn K (.ref C) = true
  FB : ExcBaseFacts B newId initId bmB
  SB : StoreFacts B bmB "object.__setattr__" "object"
/-- an own exception class, over whatever base -/
def OexA (K : PySem.W.Frag) (C : Addr) : Prop := ∃ (B newId initId : String) (bmB : List Value), OexG K C B newId initId bmB
/-- the object of a kept exception -/
abbrev keO (C dx t : Addr) : Obj := { cls := .ref C, dict := some dx, data := .fields #[.ref t, .none, .none, .none, .bool false, .none] }
/-- a kept exception: nothing of it changes -/
def kpt (C dx t : Addr) : HO := .frz (keO C dx t) (.ext fun _ => True)
def spXG (K : PySem.W.Frag) (f : Str) : Sp := fun vs H Q _ => ∃ (a C : Addr) (v : V), vs = [.ref a, v] ∧ OexA K C ∧ PySem.W.findIn K (.ref C) f = some none ∧ H a = some (exo a C none) ∧
  ∀ dx, H dx = none → dx ≠ a → Q .non (upd (upd H dx (exd dx [(f, v)])) a (exo a C (some dx)))
end L2
set_option Elab.async false
set_option linter.all false
set_option maxRecDepth 100000
set_option maxHeartbeats 4000000
namespace L2.Mi
open PySem

inductive D where
  | non | bl (b : Bool) | int (i : Int) | str (x : List Nat) | tup (xs : List D) | ref (a : Nat) | ty (n : String)
  /-- a list, a dict that nobody changes; a tuple of the written part -/
  | lv (xs : List D) | dv (t : Bool) (kvs : List (D × D)) | kt (xs : List D)
  /-- a class of the program -/
  | cl (c : Nat)
  /-- a list that stood there before: the script, a table of the top -/
  | fl (xs : List D)
  /-- a def of the program -/
  | fn (i : Nat)
  /-- a kept exception: its class, its fields' numbers, their values -/
  | ex (c : Nat) (ns : List Nat) (ds : List D)
  /-- a class of exceptions -/
  | cx (c : Nat)
  /-- a lambda of the law, without parameters and captured names -/
  | lm (k : Nat)

inductive Ob where
  | lst (xs : List D)
  | dic (t : Bool) (kvs : List (D × D))
  | ins (c : Nat) (fs : List (Nat × D))
  | lck (o : Ob)

structure Store where
  objs : List Ob
namespace Store
def size (S : Store) : Nat := S.objs.length
def get (S : Store) (i : Nat) : Option Ob := S.objs[i]?
def set (S : Store) (i : Nat) (o : Ob) : Store := ⟨S.objs.set i o⟩
def push (S : Store) (o : Ob) : Store := ⟨S.objs ++ [o]⟩
theorem size_set (S : Store) (i : Nat) (o : Ob) : (S.set i o).size = S.size := by simp [size, set]
theorem size_push (S : Store) (o : Ob) : (S.push o).size = S.size + 1 := by simp [size, push]
theorem get_lt {S : Store} {i : Nat} {o : Ob} (h : S.get i = some o) : i < S.size := (List.getElem?_eq_some_iff.mp h).1
theorem get_none {S : Store} {i : Nat} (h : S.size ≤ i) : S.get i = none := by
  unfold get size at *
  exact List.getElem?_eq_none_iff.mpr h
theorem get_set_same {S : Store} {i : Nat} {o : Ob} (h : i < S.size) : (S.set i o).get i = some o := by
  unfold get set size at *
  simp [h]
theorem get_set_ne {S : Store} {i j : Nat} {o : Ob} (h : i ≠ j) : (S.set i o).get j = S.get j := by
  unfold get set
  simp [List.getElem?_set_ne h]
theorem get_push_same {S : Store} {o : Ob} : (S.push o).get S.size = some o := by
  unfold get push size
  simp
theorem get_push_lt {S : Store} {i : Nat} {o : Ob} (h : i < S.size) : (S.push o).get i = S.get i := by
  unfold get push size at *
  simp [List.getElem?_append_left h]
theorem get_push_some {S : Store} {i : Nat} {o u : Ob} (h : S.get i = some u) : (S.push o).get i = some u := by
  rw [get_push_lt (get_lt h)]; exact h
theorem get_push_ne {S : Store} {i : Nat} {o : Ob} (h : i ≠ S.size) : (S.push o).get i = S.get i := by
  by_cases hl : i < S.size
  · exact get_push_lt hl
  · rw [get_none (S := S) (by omega), get_none (by rw [size_push]; omega)]
end Store

/-- an exception in flight: its class, its fields -/
structure Xn where
  c : Nat
  fs : List (Nat × D)

inductive Res (α : Type) where
  | ok (a : α) (S : Store)
  | exc (x : Xn) (S : Store)
  | bad
abbrev En := List (Option D)
inductive RS where
  | nx (σ : En) (S : Store)
  | rt (d : D) (S : Store)
  | bk (σ : En) (S : Store)
  | ct (σ : En) (S : Store)
  | exc (x : Xn) (σ : En) (S : Store)
  | bad
def Res.bind {α β : Type} (r : Res α) (f : α → Store → Res β) : Res β :=
  match r with
  | .ok a S => f a S
  | .exc x S => .exc x S
  | .bad => .bad
theorem Res.bind_ok {α β : Type} {a : α} {S : Store} {f : α → Store → Res β} : (Res.ok a S).bind f = f a S := rfl
abbrev ME := En → Store → Res D
abbrev MA := En → Store → Res (List D)
abbrev MT := En → Store → Res Bool
abbrev MS := En → Store → RS

/-- what a class of the program must have -/
structure CI (K : PySem.W.Frag) (C : Addr) : Prop where
  cl : Cls K C
  ha : PySem.W.findIn K (.ref C) "__class__" = some (some (.builtin "object.__class__"))
  hn : PySem.W.specialIn K (.builtin "object.__class__") "__get__" = some (some (.builtin "getset_descriptor.__get__"))
  htk : PySem.W.takesIn K (.builtin "object.__class__") = some true
  hm : PySem.W.mroIn K C (.type "object") = some true
/-- a type: a built-in one, a class of the program -/
inductive Tag where
  | b (n : String) | o (c : Nat)
  deriving DecidableEq
def tagVal (cls : Nat → Option Addr) : Tag → Option Value
  | .b n => some (.type n)
  | .o c => (cls c).map Value.ref
/-- the program's tables: the written part, the classes by number, the fields' names by number, what isinstance says, the exceptions' classes -/
structure Gx where
  K : PySem.W.Frag
  cls : Nat → Option Addr
  fld : Nat → Str
  inj : ∀ i j, fld i = fld j → i = j
  clsv : Nat → Option Value
  ci : ∀ c C, cls c = some C → CI K C
  isi : Tag → Tag → Option Bool
  isi_ok : ∀ t u b tv uv, isi t u = some b → tagVal cls t = some tv → tagVal cls u = some uv → PySem.W.kitOne K tv uv = some b
  /-- the tables of code objects that grow, and the name that their code objects bear -/
  tabs : List (Addr × Str)
  /-- the defs by number -/
  fns : Nat → Option Addr
  /-- the law's lambdas: their name, parameters, body, scope -/
  lams : Nat → Option (Str × Arguments × Expr × Scope)

def keyD : D → Option Key
  | .int i => some (.inl i)
  | .str x => some (.inr ⟨x.toArray⟩)
  | _ => none
def keysD : List D → Option (List Key)
  | [] => some []
  | d :: ds => match keyD d, keysD ds with
    | some k, some ks => some (k :: ks)
    | _, _ => none
def keyT : D → Option (List Key)
  | .tup ds => keysD ds
  | _ => none

/-- where the store's things stand, and what is hidden (a comprehension's list while it grows) -/
structure Wd where
  v : List Addr
  h : List Addr
def Wd.no (ρ : Wd) (a : Addr) : Prop := a ∉ ρ.v ∧ a ∉ ρ.h
def Wd.push (ρ : Wd) (a : Addr) : Wd := ⟨ρ.v ++ [a], ρ.h⟩

/-- a list that nothing changes -/
def FlAt (K : PySem.W.Frag) (H : Hp) (a : Addr) (xs : List V) : Prop := (∃ o, H a = some (.frz o (.lst xs))) ∨ SqL K (fun _ => none) a xs
section
variable (G : Gx) (ρ : Wd) (H : Hp)
mutual
inductive RV : D → V → Prop
  | non : RV .non .non
  | bl (b : Bool) : RV (.bl b) (.bl b)
  | int (i : Int) : RV (.int i) (.int i)
  | str (x : List Nat) : RV (.str x) (.str ⟨x.toArray⟩)
  | ty (n : String) : RV (.ty n) (.ty n)
  | cl {c : Nat} {C : Addr} : G.cls c = some C → RV (.cl c) (.ref C)
  | ref {i : Nat} {a : Addr} : ρ.v[i]? = some a → RV (.ref i) (.ref a)
  | fn {i : Nat} {a : Addr} : G.fns i = some a → RV (.fn i) (.ref a)
  | tup {ds : List D} {a : Addr} {xs : List V} : H a = some (.tup xs) → RVs ds xs → RV (.tup ds) (.ref a)
  | kt {ds : List D} {a : Addr} {xs : List V} : SqT G.K (fun _ => none) a xs → RVs ds xs → RV (.kt ds) (.ref a)
  | lv {ds : List D} {a : Addr} {xs : List V} : ρ.no a → H a = some (.lst xs) → RVs ds xs → RV (.lv ds) (.ref a)
  | fl {ds : List D} {a : Addr} {xs : List V} : FlAt G.K H a xs → RVs ds xs → RV (.fl ds) (.ref a)
  | cx {c : Nat} {C : Addr} : G.clsv c = some (.ref C) → RV (.cx c) (.ref C)
  | ex {c : Nat} {C a dx t0 : Addr} {ns : List Nat} {ds : List D} {xs : List V} : G.clsv c = some (.ref C) → H a = some (kpt C dx t0) → H dx = some (.xd ((ns.map G.fld).zip xs)) → RVs ds xs → RV (.ex c ns ds) (.ref a)
  | lm {k : Nat} {f c' : Addr} {q : Str} {ps : Arguments} {bd : Expr} {sc : Scope} {pm ctv : Value} : G.lams k = some (q, ps, bd, sc) → H f = some (.frz (PySem.W.kla_obj "<lambda>" q ps bd sc [] pm c' ctv) (.ext fun _ => True)) → H c' = some (LamX.CodeO c' q) → RV (.lm k) (.ref f)
  | dvK {kvs : List (D × D)} {a : Addr} {kus : List (Key × V)} : ρ.no a → Rd H a (.dK kus) → RKs kvs kus → RV (.dv false kvs) (.ref a)
  | dvT {kvs : List (D × D)} {a : Addr} {kus : List (List Key × V)} : ρ.no a → Rd H a (.dT kus) → RTs kvs kus → RV (.dv true kvs) (.ref a)
inductive RVs : List D → List V → Prop
  | nil : RVs [] []
  | cons {d : D} {ds : List D} {v : V} {vs : List V} : RV d v → RVs ds vs → RVs (d :: ds) (v :: vs)
inductive RKs : List (D × D) → List (Key × V) → Prop
  | nil : RKs [] []
  | cons {d e : D} {k : Key} {v : V} {kvs : List (D × D)} {kus : List (Key × V)} : keyD d = some k → RV e v → RKs kvs kus → RKs ((d, e) :: kvs) ((k, v) :: kus)
inductive RTs : List (D × D) → List (List Key × V) → Prop
  | nil : RTs [] []
  | cons {d e : D} {k : List Key} {v : V} {kvs : List (D × D)} {kus : List (List Key × V)} : keyT d = some k → RV e v → RTs kvs kus → RTs ((d, e) :: kvs) ((k, v) :: kus)
end
end

def IsT : HO → Prop
  | .tup _ => True
  | .frz _ (.lst _) => True
  | .frz _ (.ext _) => True
  | .xd _ => True
  | .ext _ => True
  | _ => False
/-- tuples stay, frozen lists too -/
def TK (G : Gx) (H H' : Hp) : Prop := ∀ a u, IsT u → H a = some u → H' a = some u
theorem FlAt.move {G : Gx} {H H' : Hp} {a : Addr} {xs : List V} (t : TK G H H') (h : FlAt G.K H a xs) : FlAt G.K H' a xs := h.elim (fun ⟨o, h⟩ => .inl ⟨o, t a _ trivial h⟩) .inr
theorem FlAt.sq {K : PySem.W.Frag} {H : Hp} {a : Addr} {xs : List V} (h : FlAt K H a xs) : SqL K H a xs := by
  rcases h with ⟨o, h⟩ | (h | ⟨o, h⟩) | h
  · exact .inl (.inr ⟨o, h⟩)
  · cases h
  · cases h
  · exact .inr h
/-- no table of code objects -/
def NTb : HO → Prop
  | .tbl _ => False
  | _ => True
/-- something stands there, and no table -/
def SmO : Option HO → Prop
  | some u => NTb u
  | none => False
theorem SmO.ne {o : Option HO} (h : SmO o) : o ≠ none := by
  rintro rfl
  exact h
/-- a table of code objects, a code object -/
def IsE : HO → Prop
  | .tbl _ => True
  | .ext _ => True
  | _ => False
theorem tabs_move {T : List (Addr × Str)} {H H' : Hp} (t : LamX.Tabs T H) (k : ∀ a u, IsE u → H a = some u → H' a = some u) : LamX.Tabs T H' := by
  intro p hp
  obtain ⟨ps, h1, h2, h3⟩ := t p hp
  refine ⟨ps, k _ _ trivial h1, h2, fun pos cv hc => ?_⟩
  obtain ⟨c, e1, e2⟩ := h3 pos cv hc
  refine ⟨c, e1, k _ _ ?_ e2⟩
  unfold LamX.CodeO
  exact trivial
def IsDk : HO → Prop
  | .dK _ => True
  | .dT _ => True
  | _ => False
structure Le (G : Gx) (ρ : Wd) (H : Hp) (ρ' : Wd) (H' : Hp) : Prop where
  pre : ρ.v <+: ρ'.v
  hid : ρ'.h = ρ.h
  tk : TK G H H'
  kl : ∀ a xs, ρ.no a → H a = some (.lst xs) → H' a = some (.lst xs)
  kp : ∀ a u, ρ.no a → IsDk u → Rd H a u → Rd H' a u
  ni : ∀ a, ρ.no a → SmO (H a) → ρ'.no a ∧ SmO (H' a)
  kh : ∀ a, a ∈ ρ.h → H a ≠ none → H' a = H a
  /-- what is locked stays so -/
  kz : ∀ a o u, H a = some (.frz o u) → H' a = some (.frz o u)
theorem rd_some {H : Hp} {a : Addr} {u : HO} (h : Rd H a u) : H a ≠ none := by
  rcases h with h | ⟨o, h⟩ <;> (rw [h]; simp)
theorem rd_sm {H : Hp} {a : Addr} {u : HO} (h : Rd H a u) (k : IsDk u) : SmO (H a) := by
  rcases h with h | ⟨o, h⟩
  · rw [h]
    cases u <;> first | exact k.elim | exact trivial
  · rw [h]
    exact trivial
theorem Le.refl {G : Gx} {ρ : Wd} {H : Hp} : Le G ρ H ρ H := ⟨List.prefix_refl _, rfl, fun _ _ _ h => h, fun _ _ _ h => h, fun _ _ _ _ h => h, fun _ h e => ⟨h, e⟩, fun _ _ _ => rfl, fun _ _ _ h => h⟩
theorem Le.trans {G : Gx} {ρ ρ' ρ'' : Wd} {H H' H'' : Hp} (a : Le G ρ H ρ' H') (b : Le G ρ' H' ρ'' H'') : Le G ρ H ρ'' H'' := by
  refine ⟨a.pre.trans b.pre, b.hid.trans a.hid, fun c xs t h => b.tk c xs t (a.tk c xs t h), fun c xs hc h => b.kl c xs (a.ni c hc (by rw [h]; trivial)).1 (a.kl c xs hc h), fun c u hc n h => ?_, fun c hc h => ?_, fun c hc h => ?_, fun c o u h => b.kz c o u (a.kz c o u h)⟩
  · exact b.kp c u (a.ni c hc (rd_sm h n)).1 n (a.kp c u hc n h)
  · obtain ⟨h1, h2⟩ := a.ni c hc h
    exact b.ni c h1 h2
  · have e := a.kh c hc h
    rw [b.kh c (by rw [a.hid]; exact hc) (by rw [e]; exact h), e]
theorem pre_get {ρ ρ' : List Addr} (h : ρ <+: ρ') {i : Nat} {a : Addr} (e : ρ[i]? = some a) : ρ'[i]? = some a := by
  obtain ⟨t, rfl⟩ := h
  obtain ⟨hl, _⟩ := List.getElem?_eq_some_iff.mp e
  rw [List.getElem?_append_left hl]
  exact e
/-- values move from one world to another -/
structure Mv (G : Gx) (ρ : Wd) (H : Hp) (ρ' : Wd) (H' : Hp) : Prop where
  at_ : ∀ (i : Nat) a, ρ.v[i]? = some a → ρ'.v[i]? = some a
  tk : TK G H H'
  kl : ∀ a xs, ρ.no a → H a = some (.lst xs) → ρ'.no a ∧ H' a = some (.lst xs)
  kp : ∀ a u, ρ.no a → IsDk u → Rd H a u → ρ'.no a ∧ Rd H' a u
mutual
theorem RV.move {G : Gx} {ρ ρ' : Wd} {H H' : Hp} (l : Mv G ρ H ρ' H') : ∀ {d : D} {v : V}, RV G ρ H d v → RV G ρ' H' d v
  | _, _, .non => .non
  | _, _, .bl b => .bl b
  | _, _, .int i => .int i
  | _, _, .str x => .str x
  | _, _, .ty n => .ty n
  | _, _, .cl h => .cl h
  | _, _, .fn h => .fn h
  | _, _, .ref e => .ref (l.at_ _ _ e)
  | _, _, .tup h r => .tup (l.tk _ _ trivial h) (RVs.move l r)
  | _, _, .fl h r => .fl (h.move l.tk) (RVs.move l r)
  | _, _, .kt h r => .kt h (RVs.move l r)
  | _, _, .cx e => .cx e
  | _, _, .lm e h k => .lm e (l.tk _ _ trivial h) (l.tk _ _ (by unfold LamX.CodeO; exact trivial) k)
  | _, _, .ex e h k r => .ex e (l.tk _ _ trivial h) (l.tk _ _ trivial k) (RVs.move l r)
  | _, _, .lv n h r => .lv (l.kl _ _ n h).1 (l.kl _ _ n h).2 (RVs.move l r)
  | _, _, .dvK n h r => .dvK (l.kp _ (.dK _) n trivial h).1 (l.kp _ (.dK _) n trivial h).2 (RKs.move l r)
  | _, _, .dvT n h r => .dvT (l.kp _ (.dT _) n trivial h).1 (l.kp _ (.dT _) n trivial h).2 (RTs.move l r)
theorem RVs.move {G : Gx} {ρ ρ' : Wd} {H H' : Hp} (l : Mv G ρ H ρ' H') : ∀ {ds : List D} {vs : List V}, RVs G ρ H ds vs → RVs G ρ' H' ds vs
  | _, _, .nil => .nil
  | _, _, .cons h t => .cons (RV.move l h) (RVs.move l t)
theorem RKs.move {G : Gx} {ρ ρ' : Wd} {H H' : Hp} (l : Mv G ρ H ρ' H') : ∀ {ds : List (D × D)} {vs : List (Key × V)}, RKs G ρ H ds vs → RKs G ρ' H' ds vs
  | _, _, .nil => .nil
  | _, _, .cons k h t => .cons k (RV.move l h) (RKs.move l t)
theorem RTs.move {G : Gx} {ρ ρ' : Wd} {H H' : Hp} (l : Mv G ρ H ρ' H') : ∀ {ds : List (D × D)} {vs : List (List Key × V)}, RTs G ρ H ds vs → RTs G ρ' H' ds vs
  | _, _, .nil => .nil
  | _, _, .cons k h t => .cons k (RV.move l h) (RTs.move l t)
end
theorem Le.mv {G : Gx} {ρ ρ' : Wd} {H H' : Hp} (l : Le G ρ H ρ' H') : Mv G ρ H ρ' H' :=
  ⟨fun _ _ h => pre_get l.pre h, l.tk, fun a xs n h => ⟨(l.ni a n (by rw [h]; trivial)).1, l.kl a xs n h⟩, fun a u n dk h => ⟨(l.ni a n (rd_sm h dk)).1, l.kp a u n dk h⟩⟩
theorem Mv.trans {G : Gx} {ρ ρ' ρ'' : Wd} {H H' H'' : Hp} (a : Mv G ρ H ρ' H') (b : Mv G ρ' H' ρ'' H'') : Mv G ρ H ρ'' H'' :=
  ⟨fun i c h => b.at_ i c (a.at_ i c h), fun c xs t h => b.tk c xs t (a.tk c xs t h), fun c xs n h => b.kl c xs (a.kl c xs n h).1 (a.kl c xs n h).2, fun c u n dk h => b.kp c u (a.kp c u n dk h).1 dk (a.kp c u n dk h).2⟩
theorem RV.mono {G : Gx} {ρ ρ' : Wd} {H H' : Hp} (l : Le G ρ H ρ' H') {d : D} {v : V} (r : RV G ρ H d v) : RV G ρ' H' d v := r.move l.mv
theorem RVs.mono {G : Gx} {ρ ρ' : Wd} {H H' : Hp} (l : Le G ρ H ρ' H') {ds : List D} {vs : List V} (r : RVs G ρ H ds vs) : RVs G ρ' H' ds vs := r.move l.mv
theorem RVs.length {G : Gx} {ρ : Wd} {H : Hp} : ∀ {ds : List D} {vs : List V}, RVs G ρ H ds vs → ds.length = vs.length
  | _, _, .nil => rfl
  | _, _, .cons _ t => by simp [RVs.length t]
theorem RVs.append {G : Gx} {ρ : Wd} {H : Hp} : ∀ {ds es : List D} {vs us : List V}, RVs G ρ H ds vs → RVs G ρ H es us → RVs G ρ H (ds ++ es) (vs ++ us)
  | _, _, _, _, .nil, r => r
  | _, _, _, _, .cons h t, r => .cons h (RVs.append t r)
theorem RVs.get {G : Gx} {ρ : Wd} {H : Hp} : ∀ {ds : List D} {vs : List V} {i : Nat} {d : D}, RVs G ρ H ds vs → ds[i]? = some d → ∃ v, vs[i]? = some v ∧ RV G ρ H d v
  | _, _, _, _, .nil, e => by simp at e
  | _, _, 0, _, .cons h _, e => by simp at e; subst e; exact ⟨_, rfl, h⟩
  | _, _, i + 1, d, .cons _ t, e => by
    obtain ⟨v, h1, h2⟩ := RVs.get (i := i) (d := d) t (by simpa using e)
    exact ⟨v, by simpa using h1, h2⟩
theorem RVs.set {G : Gx} {ρ : Wd} {H : Hp} {d : D} {v : V} (h : RV G ρ H d v) : ∀ {ds : List D} {vs : List V} (i : Nat), RVs G ρ H ds vs → RVs G ρ H (ds.set i d) (vs.set i v)
  | _, _, _, .nil => .nil
  | _, _, 0, .cons _ t => .cons h t
  | _, _, i + 1, .cons q t => .cons q (RVs.set h i t)
section
variable (G : Gx) (ρ : Wd) (H : Hp)
inductive RFs : List (Nat × D) → List (Str × V) → Prop
  | nil : RFs [] []
  | cons {n : Nat} {d : D} {v : V} {fs : List (Nat × D)} {us : List (Str × V)} : RV G ρ H d v → RFs fs us → RFs ((n, d) :: fs) ((G.fld n, v) :: us)
inductive RO : Ob → HO → Prop
  | lst {ds : List D} {xs : List V} : RVs G ρ H ds xs → RO (.lst ds) (.lst xs)
  | dK {kvs : List (D × D)} {kus : List (Key × V)} : RKs G ρ H kvs kus → RO (.dic false kvs) (.dK kus)
  | dT {kvs : List (D × D)} {kus : List (List Key × V)} : RTs G ρ H kvs kus → RO (.dic true kvs) (.dT kus)
  | ins {c : Nat} {C dx : Addr} {fs : List (Nat × D)} {us : List (Str × V)} : G.cls c = some C → RFs G ρ H fs us → RO (.ins c fs) (.ins C dx us)
  | lck {o : Ob} {ob : Obj} {u : HO} : RO o u → RO (.lck o) (.frz ob u)
end
section
variable {G : Gx} {ρ ρ' : Wd} {H H' : Hp}
theorem RFs.move {ρ ρ' : Wd} {H H' : Hp} (l : Mv G ρ H ρ' H') : ∀ {ds : List (Nat × D)} {vs : List (Str × V)}, RFs G ρ H ds vs → RFs G ρ' H' ds vs
  | _, _, .nil => .nil
  | _, _, .cons h t => .cons (h.move l) (RFs.move l t)
theorem RO.move {ρ ρ' : Wd} {H H' : Hp} (l : Mv G ρ H ρ' H') {o : Ob} {u : HO} (r : RO G ρ H o u) : RO G ρ' H' o u := by
  induction r with
  | lst r => exact .lst (r.move l)
  | dK r => exact .dK (r.move l)
  | dT r => exact .dT (r.move l)
  | ins h r => exact .ins h (r.move l)
  | lck _ ih => exact .lck ih
theorem RO.mono (l : Le G ρ H ρ' H') {o : Ob} {u : HO} (r : RO G ρ H o u) : RO G ρ' H' o u := r.move l.mv
theorem RFs.length : ∀ {fs : List (Nat × D)} {us : List (Str × V)}, RFs G ρ H fs us → fs.length = us.length
  | _, _, .nil => rfl
  | _, _, .cons _ t => by simp [RFs.length t]
end

structure Rl (G : Gx) (ρ : Wd) (S : Store) (H : Hp) : Prop where
  len : ρ.v.length = S.size
  nd : ρ.v.Nodup
  hh : ∀ a, a ∈ ρ.h → a ∉ ρ.v ∧ SmO (H a)
  ob : ∀ i o, S.get i = some o → ∃ a u, ρ.v[i]? = some a ∧ H a = some u ∧ RO G ρ H o u
  tb : LamX.Tabs G.tabs H
theorem RO.ntb {G : Gx} {ρ : Wd} {H : Hp} {o : Ob} {u : HO} (r : RO G ρ H o u) : NTb u := by
  cases r <;> exact trivial
/-- slots -/
structure RE (G : Gx) (ρ : Wd) (H : Hp) (σs : En) (σ : St) : Prop where
  len : σs.length = σ.length
  get : ∀ (i : Nat) (d : D), σs[i]? = some (some d) → ∃ v : V, σ[i]? = some (some v) ∧ RV G ρ H d v
/-- an exception: its class, its fields -/
structure RX (G : Gx) (ρ : Wd) (H : Hp) (x : Xn) (cls : Value) (dd : Option Addr) : Prop where
  cls : G.clsv x.c = some cls
  fs : (dd = none ∧ x.fs = []) ∨ ∃ d us, dd = some d ∧ H d = some (.xd us) ∧ RFs G ρ H x.fs us
section
variable {G : Gx} {ρ ρ' : Wd} {H H' : Hp}
theorem RE.move {ρ ρ' : Wd} {H H' : Hp} (l : Mv G ρ H ρ' H') {σs : En} {σ : St} (r : RE G ρ H σs σ) : RE G ρ' H' σs σ := ⟨r.len, fun i d e => let ⟨v, h1, h2⟩ := r.get i d e; ⟨v, h1, h2.move l⟩⟩
theorem RE.mono (l : Le G ρ H ρ' H') {σs : En} {σ : St} (r : RE G ρ H σs σ) : RE G ρ' H' σs σ := ⟨r.len, fun i d e => let ⟨v, h1, h2⟩ := r.get i d e; ⟨v, h1, h2.mono l⟩⟩
theorem RE.set {σs : En} {σ : St} {d : D} {v : V} (r : RE G ρ H σs σ) (i : Nat) (h : RV G ρ H d v) : RE G ρ H (σs.set i (some d)) (σ.set i (some v)) := by
  refine ⟨by simp [r.len], fun j e hj => ?_⟩
  by_cases hij : i = j
  · subst hij
    by_cases hl : i < σs.length
    · rw [List.getElem?_set_self hl] at hj
      cases hj
      exact ⟨v, List.getElem?_set_self (by rw [← r.len]; exact hl), h⟩
    · rw [List.getElem?_eq_none (by simpa using hl)] at hj
      cases hj
  · rw [List.getElem?_set_ne hij] at hj ⊢
    exact r.get j e hj
end

section
variable {α β : Type} (G : Gx)
def PostR (R : Wd → Hp → α → β → Prop) (ρ : Wd) (H : Hp) (r : Res α) (Q : β → Hp → Prop) (E : XK) : Prop :=
  match r with
  | .ok d S' => ∀ ρ' H' v, Le G ρ H ρ' H' → Rl G ρ' S' H' → R ρ' H' d v → Q v H'
  | .exc x S' => ∀ ρ' H' cls dd, Le G ρ H ρ' H' → Rl G ρ' S' H' → RX G ρ' H' x cls dd → E cls dd H'
  | .bad => False
def PostS (ρ : Wd) (H : Hp) (r : RS) (Dn : Ends) (W : WX) : Prop :=
  match r with
  | .nx σs S' => ∀ ρ' H' σ', Le G ρ H ρ' H' → Rl G ρ' S' H' → RE G ρ' H' σs σ' → Dn.nx σ' H'
  | .bk σs S' => ∀ ρ' H' σ', Le G ρ H ρ' H' → Rl G ρ' S' H' → RE G ρ' H' σs σ' → Dn.bk σ' H'
  | .ct σs S' => ∀ ρ' H' σ', Le G ρ H ρ' H' → Rl G ρ' S' H' → RE G ρ' H' σs σ' → Dn.ct σ' H'
  | .rt d S' => ∀ ρ' H' v, Le G ρ H ρ' H' → Rl G ρ' S' H' → RV G ρ' H' d v → Dn.rt v H'
  | .exc x σs S' => ∀ ρ' H' σ' cls dd, Le G ρ H ρ' H' → Rl G ρ' S' H' → RE G ρ' H' σs σ' → RX G ρ' H' x cls dd → W cls dd σ' H'
  | .bad => False
end
abbrev Post (G : Gx) := PostR (α := D) (β := V) G (RV G)
abbrev PostA (G : Gx) := PostR (α := List D) (β := List V) G (RVs G)
abbrev PostT (G : Gx) := PostR (α := Bool) (β := Bool) G (fun _ _ b c => b = c)
section
variable {α β : Type} {G : Gx} {ρ ρ' : Wd} {H H' : Hp}
theorem PostR.le {R : Wd → Hp → α → β → Prop} {r : Res α} {Q : β → Hp → Prop} {E : XK} (p : PostR G R ρ H r Q E) (l : Le G ρ H ρ' H') : PostR G R ρ' H' r Q E := by
  cases r with
  | ok d S => exact fun ρ2 H2 v l2 rl h => p ρ2 H2 v (l.trans l2) rl h
  | exc x S => exact fun ρ2 H2 c dd l2 rl h => p ρ2 H2 c dd (l.trans l2) rl h
  | bad => exact p
theorem PostR.imp {R : Wd → Hp → α → β → Prop} {r : Res α} {Q Q' : β → Hp → Prop} {E E' : XK} (p : PostR G R ρ H r Q E) (h : ∀ v H', Q v H' → Q' v H') (hE : ∀ c d H', E c d H' → E' c d H') : PostR G R ρ H r Q' E' := by
  cases r with
  | ok d S => exact fun ρ2 H2 v l2 rl q => h _ _ (p ρ2 H2 v l2 rl q)
  | exc x S => exact fun ρ2 H2 c dd l2 rl q => hE _ _ _ (p ρ2 H2 c dd l2 rl q)
  | bad => exact p
theorem PostS.le {r : RS} {Dn : Ends} {W : WX} (p : PostS G ρ H r Dn W) (l : Le G ρ H ρ' H') : PostS G ρ' H' r Dn W := by
  cases r with
  | nx σ S => exact fun ρ2 H2 v l2 rl h => p ρ2 H2 v (l.trans l2) rl h
  | bk σ S => exact fun ρ2 H2 v l2 rl h => p ρ2 H2 v (l.trans l2) rl h
  | ct σ S => exact fun ρ2 H2 v l2 rl h => p ρ2 H2 v (l.trans l2) rl h
  | rt d S => exact fun ρ2 H2 v l2 rl h => p ρ2 H2 v (l.trans l2) rl h
  | exc x σ S => exact fun ρ2 H2 σ' c dd l2 rl re h => p ρ2 H2 σ' c dd (l.trans l2) rl re h
  | bad => exact p
/-- THE STEP: what is wanted of the first part, then of the rest -/
theorem PostR.bind {γ δ : Type} {R : Wd → Hp → α → β → Prop} {R' : Wd → Hp → γ → δ → Prop} {r : Res α} {f : α → Store → Res γ} {Q : δ → Hp → Prop} {E : XK} (p : PostR G R' ρ H (r.bind f) Q E)
    {Q1 : β → Hp → Prop} (k : ∀ ρ1 H1 S1 d v, Le G ρ H ρ1 H1 → Rl G ρ1 S1 H1 → R ρ1 H1 d v → PostR G R' ρ1 H1 (f d S1) Q E → Q1 v H1) : PostR G R ρ H r Q1 E := by
  cases r with
  | ok d S =>
    intro ρ1 H1 v l rl h
    exact k ρ1 H1 S d v l rl h (PostR.le (r := f d S) p l)
  | exc x S => exact p
  | bad => exact p
end

section
variable (G : Gx) (W : WX)
def tm (m : ME) : TE := fun σ H Q => ∃ ρ σs S, Rl G ρ S H ∧ RE G ρ H σs σ ∧ Post G ρ H (m σs S) Q (fun c d H' => W c d σ H')
def tma (m : MA) : TA := fun σ H Q => ∃ ρ σs S, Rl G ρ S H ∧ RE G ρ H σs σ ∧ PostA G ρ H (m σs S) Q (fun c d H' => W c d σ H')
def tmt (m : MT) : TT := fun σ H Q => ∃ ρ σs S, Rl G ρ S H ∧ RE G ρ H σs σ ∧ PostT G ρ H (m σs S) Q (fun c d H' => W c d σ H')
def tms (m : MS) : TS := fun Dn σ H => ∃ ρ σs S, Rl G ρ S H ∧ RE G ρ H σs σ ∧ PostS G ρ H (m σs S) Dn W
end
theorem PE.weak {X : Cx} {e : Expr} {t t' : TE} (h : PE X e t) (i : ∀ σ H Q, t' σ H Q → t σ H Q) : PE X e t' := ⟨fun pins s σ H Q I q => h.run pins s σ H Q I (i _ _ _ q)⟩
theorem PT.weak {X : Cx} {e : Expr} {t t' : TT} (h : PT X e t) (i : ∀ σ H Q, t' σ H Q → t σ H Q) : PT X e t' := ⟨fun pins s σ H Q I q => h.run pins s σ H Q I (i _ _ _ q)⟩
theorem PW.weak {X : Cx} {e : Expr} {t t' : TT} (h : PW X e t) (i : ∀ σ H Q, t' σ H Q → t σ H Q) : PW X e t' := ⟨fun w pins s σ H Q I q => h.run w pins s σ H Q I (i _ _ _ q)⟩
theorem PA.weak {X : Cx} {e : List Expr} {t t' : TA} (h : PA X e t) (i : ∀ σ H Q, t' σ H Q → t σ H Q) : PA X e t' := ⟨fun pos pins s σ H Q I q => h.run pos pins s σ H Q I (i _ _ _ q)⟩
theorem PS.weak {X : Cx} {e : Stmt} {t t' : TS} (h : PS X e t) (i : ∀ σ H Q, t' σ H Q → t σ H Q) : PS X e t' := ⟨fun pins s σ H D I q => h.run pins s σ H D I (i _ _ _ q)⟩
theorem PSs.weak {X : Cx} {e : List Stmt} {t t' : TS} (h : PSs X e t) (i : ∀ σ H Q, t' σ H Q → t σ H Q) : PSs X e t' := ⟨fun pins s σ H D I q => h.run pins s σ H D I (i _ _ _ q)⟩

section
variable {G : Gx} {ρ : Wd} {S : Store} {H : Hp}
theorem tk_new {p : Addr} {o : HO} (hp : H p = none) : TK G H (L2.upd H p o) := fun _ _ _ h => by rw [upd_ne (ne_of_none h hp)]; exact h
/-- the thing at p is no tuple -/
def NoT : HO → Prop
  | .tup _ => False
  | .frz _ _ => False
  | .xd _ => False
  | .tbl _ => False
  | .ext _ => False
  | _ => True
theorem NoT.noE {u : HO} (n : NoT u) (t : IsE u) : False := by
  cases u with
  | _ => first | exact n | exact t
theorem tabs_new {T : List (Addr × Str)} {H : Hp} {p : Addr} {o : HO} (t : LamX.Tabs T H) (hp : H p = none) : LamX.Tabs T (L2.upd H p o) :=
  tabs_move t fun a u _ e => by rw [upd_ne (ne_of_none e hp)]; exact e
theorem tabs_upd {T : List (Addr × Str)} {H : Hp} {p : Addr} {u o : HO} (t : LamX.Tabs T H) (hp : H p = some u) (nu : ¬ IsE u) : LamX.Tabs T (L2.upd H p o) :=
  tabs_move t fun a w i e => by
    rw [upd_ne (show a ≠ p from fun z => by rw [z, hp] at e; cases e; exact nu i)]
    exact e
theorem NoT.no {u : HO} (n : NoT u) (t : IsT u) : False := by
  cases u with
  | _ => first | exact n | exact t
theorem tk_upd {p : Addr} {o u : HO} (hp : H p = some u) (n : NoT u) : TK G H (L2.upd H p o) := fun a xs t h => by
  rw [upd_ne]
  · exact h
  · rintro rfl
    rw [h] at hp
    cases hp
    exact n.no t
theorem rd_new {p : Addr} {o : HO} (hp : H p = none) {a : Addr} {u : HO} (h : Rd H a u) : Rd (L2.upd H p o) a u := by
  have hne : a ≠ p := fun e => rd_some h (by rw [e]; exact hp)
  rcases h with h | ⟨ob, h⟩
  · exact .inl (by rw [upd_ne hne]; exact h)
  · exact .inr ⟨ob, by rw [upd_ne hne]; exact h⟩
theorem Le.new {p : Addr} {o : HO} (hp : H p = none) : Le G ρ H ρ (L2.upd H p o) := ⟨List.prefix_refl _, rfl, tk_new hp, fun _ _ _ h => by rw [upd_ne (ne_of_none h hp)]; exact h, fun _ _ _ _ h => rd_new hp h, fun a h e => ⟨h, by
  rw [upd_ne (show a ≠ p from fun z => e.ne (by rw [z]; exact hp))]; exact e⟩, fun a _ e => upd_ne (show a ≠ p from fun z => e (by rw [z]; exact hp)), fun _ _ _ h => by rw [upd_ne (ne_of_none h hp)]; exact h⟩
theorem Le.push {p : Addr} {o : HO} (hp : H p = none) : Le G ρ H (ρ.push p) (L2.upd H p o) := ⟨List.prefix_append _ _, rfl, tk_new hp, fun _ _ _ h => by rw [upd_ne (ne_of_none h hp)]; exact h, fun _ _ _ _ h => rd_new hp h, fun a h e => by
  have hne : a ≠ p := fun z => e.ne (by rw [z]; exact hp)
  exact ⟨⟨by simp [Wd.push, h.1, hne], h.2⟩, by rw [upd_ne hne]; exact e⟩, fun a _ e => upd_ne (show a ≠ p from fun z => e (by rw [z]; exact hp)), fun _ _ _ h => by rw [upd_ne (ne_of_none h hp)]; exact h⟩
theorem Le.upd {p : Addr} {u u' : HO} (hm : p ∈ ρ.v) (hx : p ∉ ρ.h) (hp : H p = some u) (n : NoT u) : Le G ρ H ρ (L2.upd H p u') := ⟨List.prefix_refl _, rfl, tk_upd hp n, fun a xs ha h => by
    rw [upd_ne (show a ≠ p from fun z => ha.1 (by rw [z]; exact hm))]; exact h, fun a v ha _ h => by
  have hne : a ≠ p := fun z => ha.1 (by rw [z]; exact hm)
  rcases h with h | ⟨ob, h⟩
  · exact .inl (by rw [upd_ne hne]; exact h)
  · exact .inr ⟨ob, by rw [upd_ne hne]; exact h⟩, fun a ha e => ⟨ha, by rw [upd_ne (show a ≠ p from fun z => ha.1 (by rw [z]; exact hm))]; exact e⟩, fun a ha _ => upd_ne (show a ≠ p from fun z => hx (by rw [← z]; exact ha)), fun a o v h => by
  rw [upd_ne (show a ≠ p from fun z => by rw [z, hp] at h; cases h; exact n)]
  exact h⟩
/-- something new that the store does not know -/
theorem Rl.other {p : Addr} {o : HO} (r : Rl G ρ S H) (hp : H p = none) : Rl G ρ S (L2.upd H p o) := by
  refine ⟨r.len, r.nd, fun a ha => ⟨(r.hh a ha).1, ?_⟩, fun i ob e => ?_, tabs_new r.tb hp⟩
  · have e := (r.hh a ha).2
    rw [upd_ne (show a ≠ p from fun z => e.ne (by rw [z]; exact hp))]
    exact e
  · obtain ⟨a, u, h1, h2, h3⟩ := r.ob i ob e
    exact ⟨a, u, h1, by rw [upd_ne (ne_of_none h2 hp)]; exact h2, h3.mono (Le.new hp)⟩
theorem Store.all {S : Store} (i : Nat) (h : i < S.size) : ∃ o, S.get i = some o := by
  unfold Store.get Store.size at *
  exact ⟨S.objs[i], List.getElem?_eq_getElem h⟩
theorem Rl.no {p : Addr} (r : Rl G ρ S H) (hp : H p = none) : ρ.no p := by
  refine ⟨fun hm => ?_, fun hm => (r.hh p hm).2.ne hp⟩
  obtain ⟨i, hl, e⟩ := List.getElem_of_mem hm
  obtain ⟨o, ho⟩ := Store.all (S := S) i (by rw [← r.len]; exact hl)
  obtain ⟨a, u, h1, h2, _⟩ := r.ob i o ho
  rw [List.getElem?_eq_getElem hl, e] at h1
  cases h1
  rw [h2] at hp
  cases hp
theorem Rl.nh {p : Addr} {i : Nat} (r : Rl G ρ S H) (hi : ρ.v[i]? = some p) : p ∉ ρ.h := fun hm => (r.hh p hm).1 (List.mem_of_getElem? hi)
theorem Rl.leUpd {p : Addr} {i : Nat} {u u' : HO} (r : Rl G ρ S H) (hi : ρ.v[i]? = some p) (hp : H p = some u) (n : NoT u) : Le G ρ H ρ (L2.upd H p u') := Le.upd (List.mem_of_getElem? hi) (r.nh hi) hp n
/-- a new thing of the store -/
theorem Rl.push {p : Addr} {o : Ob} {u : HO} (r : Rl G ρ S H) (hp : H p = none) (ro : RO G ρ H o u) : Rl G (ρ.push p) (S.push o) (L2.upd H p u) := by
  have l : Le G ρ H (ρ.push p) (L2.upd H p u) := Le.push hp
  have hn := r.no hp
  refine ⟨by simp [Wd.push, r.len, Store.size_push], ?_, fun a ha => ?_, fun i ob e => ?_, tabs_new r.tb hp⟩
  · show (ρ.v ++ [p]).Nodup
    rw [List.nodup_append]
    refine ⟨r.nd, by simp, fun a ha b hb => ?_⟩
    simp only [List.mem_singleton] at hb
    subst hb
    rintro rfl
    exact hn.1 ha
  · obtain ⟨h1, h2⟩ := r.hh a ha
    have hne : a ≠ p := fun z => h2.ne (by rw [z]; exact hp)
    exact ⟨by simp [Wd.push, h1, hne], by rw [upd_ne hne]; exact h2⟩
  · by_cases hi : i = S.size
    · subst hi
      rw [Store.get_push_same] at e
      cases e
      refine ⟨p, u, ?_, upd_same, ro.mono l⟩
      rw [← r.len]
      simp [Wd.push]
    · rw [Store.get_push_ne hi] at e
      obtain ⟨a, u', h1, h2, h3⟩ := r.ob i ob e
      exact ⟨a, u', pre_get l.pre h1, by rw [upd_ne (ne_of_none h2 hp)]; exact h2, h3.mono l⟩
theorem RV.new {p : Addr} {u : HO} (r : Rl G ρ S H) : RV G (ρ.push p) (L2.upd H p u) (.ref S.size) (.ref p) := .ref (by rw [← r.len]; simp [Wd.push])
theorem nd_get {l : List Addr} (nd : l.Nodup) {i j : Nat} {a : Addr} (h1 : l[i]? = some a) (h2 : l[j]? = some a) : i = j := by
  obtain ⟨a1, e1⟩ := List.getElem?_eq_some_iff.mp h1
  obtain ⟨a2, e2⟩ := List.getElem?_eq_some_iff.mp h2
  have pw := List.pairwise_iff_getElem.mp nd
  rcases Nat.lt_trichotomy i j with h | h | h
  · exact absurd (e1.trans e2.symm) (pw i j a1 a2 h)
  · exact h
  · exact absurd (e2.trans e1.symm) (pw j i a2 a1 h)
/-- a thing of the store is changed -/
theorem Rl.set {p : Addr} {o o' : Ob} {u u' : HO} {i : Nat} (r : Rl G ρ S H) (hi : ρ.v[i]? = some p) (ho : S.get i = some o) (hp : H p = some u) (n : NoT u) (ro : RO G ρ H o' u') : Rl G ρ (S.set i o') (L2.upd H p u') := by
  have l : Le G ρ H ρ (L2.upd H p u') := r.leUpd hi hp n
  refine ⟨by rw [Store.size_set]; exact r.len, r.nd, fun a ha => ⟨(r.hh a ha).1, ?_⟩, fun j ob e => ?_, tabs_upd r.tb hp n.noE⟩
  · rw [l.kh a ha (r.hh a ha).2.ne]
    exact (r.hh a ha).2
  by_cases hij : i = j
  · subst hij
    rw [Store.get_set_same (Store.get_lt ho)] at e
    cases e
    exact ⟨p, u', hi, upd_same, ro.mono l⟩
  · rw [Store.get_set_ne hij] at e
    obtain ⟨a, v, h1, h2, h3⟩ := r.ob j ob e
    refine ⟨a, v, h1, ?_, h3.mono l⟩
    rw [upd_ne]
    · exact h2
    · rintro rfl
      exact hij (nd_get r.nd hi h1)
/-- what stands at a reference -/
theorem Rl.at {i : Nat} {a : Addr} {o : Ob} (r : Rl G ρ S H) (h : ρ.v[i]? = some a) (e : S.get i = some o) : ∃ u, H a = some u ∧ RO G ρ H o u := by
  obtain ⟨b, u, h1, h2, h3⟩ := r.ob i o e
  rw [h] at h1
  cases h1
  exact ⟨u, h2, h3⟩
end
end L2.Mi

set_option Elab.async false
set_option linter.all false
set_option maxRecDepth 100000
set_option maxHeartbeats 4000000
namespace L2.Mi
open PySem PySem.Spec PyProof.Rows

theorem Res.bind_assoc {α β γ : Type} {r : Res α} {f : α → Store → Res β} {g : β → Store → Res γ} : (r.bind f).bind g = r.bind fun a S => (f a S).bind g := by
  cases r <;> rfl

def eVar (i : Nat) : ME := fun σ S => match σ[i]? with | some (some d) => .ok d S | _ => .bad
def eC (d : D) : ME := fun _ S => .ok d S
def eBin (f : D → D → Store → Res D) (a b : ME) : ME := fun σ S => (a σ S).bind fun x S1 => (b σ S1).bind fun y S2 => f x y S2
def eUn (f : D → Store → Res D) (a : ME) : ME := fun σ S => (a σ S).bind fun x S1 => f x S1
def aList : List ME → MA
  | [] => fun _ S => .ok [] S
  | m :: ms => fun σ S => (m σ S).bind fun x S1 => (aList ms σ S1).bind fun xs S2 => .ok (x :: xs) S2
def eTup (ms : List ME) : ME := fun σ S => (aList ms σ S).bind fun xs S1 => .ok (.tup xs) S1
/-- a list that is changed later, one that is not -/
def eLst (ms : List ME) : ME := fun σ S => (aList ms σ S).bind fun xs S1 => .ok (.ref S1.size) (S1.push (.lst xs))
def eLv (ms : List ME) : ME := fun σ S => (aList ms σ S).bind fun xs S1 => .ok (.lv xs) S1
/-- a call of a built-in -/
def eFn (f : List D → Store → Res D) (a : MA) : ME := fun σ S => (a σ S).bind f
def tOf (m : ME) : MT := fun σ S => (m σ S).bind fun d S1 => match d with | .bl b => .ok b S1 | _ => .bad
def tAnd (a b : MT) : MT := fun σ S => (a σ S).bind fun c S1 => if c then b σ S1 else .ok false S1
def tOr (a b : MT) : MT := fun σ S => (a σ S).bind fun c S1 => if c then .ok true S1 else b σ S1
def tNot (a : MT) : MT := fun σ S => (a σ S).bind fun c S1 => .ok (!c) S1
def eAnd (a b : ME) : ME := fun σ S => (tOf a σ S).bind fun c S1 => if c then b σ S1 else .ok (.bl false) S1
def eOr (a b : ME) : ME := fun σ S => (tOf a σ S).bind fun c S1 => if c then .ok (.bl true) S1 else b σ S1
def eNot (a : ME) : ME := fun σ S => (tOf a σ S).bind fun c S1 => .ok (.bl (!c)) S1
def eIf (t : MT) (a b : ME) : ME := fun σ S => (t σ S).bind fun c S1 => if c then a σ S1 else b σ S1
def sNext : MS := fun σ S => .nx σ S
def sSeq (a b : MS) : MS := fun σ S => match a σ S with | .nx σ1 S1 => b σ1 S1 | r => r
def sRet (m : ME) : MS := fun σ S => match m σ S with | .ok d S1 => .rt d S1 | .exc x S1 => .exc x σ S1 | .bad => .bad
def sDrop (m : ME) : MS := fun σ S => match m σ S with | .ok _ S1 => .nx σ S1 | .exc x S1 => .exc x σ S1 | .bad => .bad
def sIf (t : MT) (a b : MS) : MS := fun σ S => match t σ S with | .ok c S1 => (if c then a σ S1 else b σ S1) | .exc x S1 => .exc x σ S1 | .bad => .bad
/-- targets -/
abbrev MG := D → En → Store → Res En
def gName (i : Nat) : MG := fun d σ S => .ok (σ.set i (some d)) S
def gAll : List MG → List D → En → Store → Res En
  | [], [], σ, S => .ok σ S
  | g :: gs, d :: ds, σ, S => (g d σ S).bind fun σ1 S1 => gAll gs ds σ1 S1
  | _, _, _, _ => .bad
def gTup (gs : List MG) : MG := fun d σ S => match d with
  | .tup ds => gAll gs ds σ S
  | _ => .bad
def sAsg (m : ME) (g : MG) : MS := fun σ S => match m σ S with
  | .ok d S1 => (match g d σ S1 with | .ok σ2 S2 => .nx σ2 S2 | _ => .bad)
  | .exc x S1 => .exc x σ S1
  | .bad => .bad
abbrev sSet (i : Nat) (m : ME) : MS := sAsg m (gName i)
/-- what is walked: at turn k, in a store: an item, or the end -/
abbrev Src := Nat → Store → Option (Option D)
abbrev MI := En → Store → Res Src
def forGo (src : Src) (g : MG) (b : MS) : Nat → Nat → MS
  | 0, _ => fun _ _ => .bad
  | n + 1, k => fun σ S => match src k S with
    | none => .bad
    | some none => .nx σ S
    | some (some d) => (match g d σ S with
      | .ok σ1 S1 => (match b σ1 S1 with
        | .nx σ2 S2 => forGo src g b n (k + 1) σ2 S2
        | .ct σ2 S2 => forGo src g b n (k + 1) σ2 S2
        | .bk σ2 S2 => .nx σ2 S2
        | r => r)
      | _ => .bad)
def sFor (i : MI) (g : MG) (b : MS) (n : Nat) : MS := fun σ S => match i σ S with
  | .ok src S1 => forGo src g b n 0 σ S1
  | .exc x S1 => .exc x σ S1
  | .bad => .bad
def iTup (m : ME) : MI := fun σ S => (m σ S).bind fun d S1 => match d with
  | .tup ds => .ok (fun k _ => some ds[k]?) S1
  | .kt ds => .ok (fun k _ => some ds[k]?) S1
  | _ => .bad
/-- the items of a list as it stands -/
def listAt (S : Store) : D → Option (List D)
  | .lv ds => some ds
  | .fl ds => some ds
  | .ref a => (match S.get a with | some (.lst ds) => some ds | some (.lck (.lst ds)) => some ds | _ => none)
  | _ => none
def iList (m : ME) : MI := fun σ S => (m σ S).bind fun d S1 => match listAt S1 d with
  | some _ => .ok (fun k S' => (listAt S' d).map fun ds => ds[k]?) S1
  | none => .bad
def i62 (j : Int) : Bool := decide (-(2 ^ 62) ≤ j) && decide (j < 2 ^ 62)
def iRange1 (m : ME) : MI := fun σ S => (m σ S).bind fun d S1 => match d with
  | .int j => if i62 j then .ok (fun k _ => some (if k < j.toNat then some (.int (0 + (k : Int))) else none)) S1 else .bad
  | _ => .bad
structure Cc (G : Gx) (X : Cx) (W : WX) : Prop where
  k : X.K = G.K
  tk : Takes X W
  hp : PassesOwn (model X.prog X.w) X.A X.env X.xe
  calm : X.calm = true
  nd : X.N.Nodup
abbrev SE (G : Gx) (X : Cx) (W : WX) (e : Expr) (m : ME) : Prop := PE X e (tm G W m)
abbrev SA (G : Gx) (X : Cx) (W : WX) (es : List Expr) (m : MA) : Prop := PA X es (tma G W m)
abbrev ST (G : Gx) (X : Cx) (W : WX) (e : Expr) (m : MT) : Prop := PT X e (tmt G W m)
abbrev SW (G : Gx) (X : Cx) (W : WX) (e : Expr) (m : MT) : Prop := PW X e (tmt G W m)
abbrev SS (G : Gx) (X : Cx) (W : WX) (st : Stmt) (m : MS) : Prop := PS X st (tms G W m)
abbrev SSs (G : Gx) (X : Cx) (W : WX) (st : List Stmt) (m : MS) : Prop := PSs X st (tms G W m)

abbrev EW (W : WX) (σ : St) : XK := fun c d H' => W c d σ H'
section
variable {G : Gx} {X : Cx} {W : WX} {pins : List (Addr × Obj)} {σ : St} {H : Hp} {s : Shared} {ρ : Wd} {σs : En} {S : Store} {α β : Type} {R : Wd → Hp → α → β → Prop} {Q : β → Hp → Prop}
/-- an expression, then the rest -/
theorem SE.go {e : Expr} {m : ME} {f : D → Store → Res α} (h : SE G X W e m) (I : Inv X pins σ H s) (rl : Rl G ρ S H) (re : RE G ρ H σs σ) (p : PostR G R ρ H ((m σs S).bind f) Q (EW W σ)) {Z : Value → Shared → Prop}
    (k : ∀ v s1 x H1 ρ1 S1 d, Inv X pins σ H1 s1 → RelV x v → Le G ρ H ρ1 H1 → Rl G ρ1 S1 H1 → RE G ρ1 H1 σs σ → RV G ρ1 H1 d x → PostR G R ρ1 H1 (f d S1) Q (EW W σ) → Z v s1) :
    wpAny (model X.prog X.w) X.A (eval e X.env) Z X.xe s := by
  refine thn (h.run pins s σ H (fun x H1 => ∃ ρ1 S1 d, Le G ρ H ρ1 H1 ∧ Rl G ρ1 S1 H1 ∧ RV G ρ1 H1 d x ∧ PostR G R ρ1 H1 (f d S1) Q (EW W σ)) I ⟨ρ, σs, S, rl, re, p.bind (R := RV G) fun ρ1 H1 S1 d v l r1 rv p1 => ⟨ρ1, S1, d, l, r1, rv, p1⟩⟩) ?_
  rintro v s1 ⟨x, H1, I1, rx, ρ1, S1, d, l, r1, rv, p1⟩
  exact k v s1 x H1 ρ1 S1 d I1 rx l r1 (re.mono l) rv p1
theorem SA.go {es : List Expr} {m : MA} {pos : Pos} {f : List D → Store → Res α} (h : SA G X W es m) (I : Inv X pins σ H s) (rl : Rl G ρ S H) (re : RE G ρ H σs σ) (p : PostR G R ρ H ((m σs S).bind f) Q (EW W σ)) {Z : List Value → Shared → Prop}
    (k : ∀ us s1 xs H1 ρ1 S1 ds, Inv X pins σ H1 s1 → Vals xs us → Le G ρ H ρ1 H1 → Rl G ρ1 S1 H1 → RE G ρ1 H1 σs σ → RVs G ρ1 H1 ds xs → PostR G R ρ1 H1 (f ds S1) Q (EW W σ) → Z us s1) :
    wpAny (model X.prog X.w) X.A (spliced (backTo pos (starEach es X.env))) Z X.xe s := by
  refine thn (h.run pos pins s σ H (fun xs H1 => ∃ ρ1 S1 ds, Le G ρ H ρ1 H1 ∧ Rl G ρ1 S1 H1 ∧ RVs G ρ1 H1 ds xs ∧ PostR G R ρ1 H1 (f ds S1) Q (EW W σ)) I ⟨ρ, σs, S, rl, re, p.bind (R := RVs G) fun ρ1 H1 S1 d v l r1 rv p1 => ⟨ρ1, S1, d, l, r1, rv, p1⟩⟩) ?_
  rintro v s1 ⟨x, H1, I1, rx, ρ1, S1, d, l, r1, rv, p1⟩
  exact k v s1 x H1 ρ1 S1 d I1 rx l r1 (re.mono l) rv p1
theorem ST.go {e : Expr} {m : MT} {f : Bool → Store → Res α} (h : ST G X W e m) (I : Inv X pins σ H s) (rl : Rl G ρ S H) (re : RE G ρ H σs σ) (p : PostR G R ρ H ((m σs S).bind f) Q (EW W σ)) {Z : Bool → Shared → Prop}
    (k : ∀ b s1 H1 ρ1 S1, Inv X pins σ H1 s1 → Le G ρ H ρ1 H1 → Rl G ρ1 S1 H1 → RE G ρ1 H1 σs σ → PostR G R ρ1 H1 (f b S1) Q (EW W σ) → Z b s1) :
    wpAny (model X.prog X.w) X.A (isTrue e X.env (eval e X.env)) Z X.xe s := by
  refine thn (h.run pins s σ H (fun b H1 => ∃ ρ1 S1, Le G ρ H ρ1 H1 ∧ Rl G ρ1 S1 H1 ∧ PostR G R ρ1 H1 (f b S1) Q (EW W σ)) I ⟨ρ, σs, S, rl, re, p.bind (R := fun _ _ b c => b = c) fun ρ1 H1 S1 d v l r1 rv p1 => ⟨ρ1, S1, l, r1, rv ▸ p1⟩⟩) ?_
  rintro v s1 ⟨H1, I1, ρ1, S1, l, r1, p1⟩
  exact k v s1 H1 ρ1 S1 I1 l r1 (re.mono l) p1
/-- a value is given out -/
theorem post_ok {Q : VK} {E : XK} {d : D} {x : V} (p : Post G ρ H (.ok d S) Q E) (rl : Rl G ρ S H) (rv : RV G ρ H d x) : Q x H := p ρ H x Le.refl rl rv
theorem post_new {Q : VK} {E : XK} {d : D} {x : V} {a : Addr} {u : HO} (p : Post G ρ H (.ok d S) Q E) (rl : Rl G ρ S H) (hn : H a = none) (rv : RV G ρ (L2.upd H a u) d x) : Q x (L2.upd H a u) := p ρ _ x (Le.new hn) (rl.other hn) rv
end

def OpS (G : Gx) (X : Cx) (W : WX) (F : Value → Value → Sem Value) (f : D → D → Store → Res D) : Prop :=
  ∀ (pins : List (Addr × Obj)) (s : Shared) (σ : St) (H : Hp) (x y : V) (v u : Value) (Q : VK) (ρ : Wd) (S : Store) (d1 d2 : D), Inv X pins σ H s → RelV x v → RelV y u → Rl G ρ S H → RV G ρ H d1 x → RV G ρ H d2 y →
    Post G ρ H (f d1 d2 S) Q (EW W σ) → wpAny (model X.prog X.w) X.A (F v u) (EP X pins σ Q) X.xe s
def UnS (G : Gx) (X : Cx) (W : WX) (F : Value → Sem Value) (f : D → Store → Res D) : Prop :=
  ∀ (pins : List (Addr × Obj)) (s : Shared) (σ : St) (H : Hp) (x : V) (v : Value) (Q : VK) (ρ : Wd) (S : Store) (d : D), Inv X pins σ H s → RelV x v → Rl G ρ S H → RV G ρ H d x →
    Post G ρ H (f d S) Q (EW W σ) → wpAny (model X.prog X.w) X.A (F v) (EP X pins σ Q) X.xe s
def FnS (G : Gx) (X : Cx) (W : WX) (F : Value) (f : List D → Store → Res D) : Prop :=
  ∀ (pins : List (Addr × Obj)) (s : Shared) (σ : St) (H : Hp) (xs : List V) (us : List Value) (Q : VK) (ρ : Wd) (S : Store) (ds : List D), Inv X pins σ H s → Vals xs us → Rl G ρ S H → RVs G ρ H ds xs →
    Post G ρ H (f ds S) Q (EW W σ) → wpAny (model X.prog X.w) X.A (call F us) (EP X pins σ Q) X.xe s
section
variable {G : Gx} {X : Cx} {W : WX}
theorem OpS.of {F : Value → Value → Sem Value} {f : D → D → Store → Res D} {r : R2} (ho : OpR X F r)
    (h : ∀ ρ S H d1 d2 x y Q E, Rl G ρ S H → RV G ρ H d1 x → RV G ρ H d2 y → Post G ρ H (f d1 d2 S) Q E → r x y H Q) : OpS G X W F f :=
  fun pins s σ H x y v u Q ρ S d1 d2 I rx ry rl r1 r2 p => ho pins s σ H x y v u Q I rx ry (h ρ S H d1 d2 x y Q _ rl r1 r2 p)
theorem UnS.of {F : Value → Sem Value} {f : D → Store → Res D} {r : V → Hp → VK → Prop} (ho : UnR X F r)
    (h : ∀ ρ S H d x Q E, Rl G ρ S H → RV G ρ H d x → Post G ρ H (f d S) Q E → r x H Q) : UnS G X W F f :=
  fun pins s σ H x v Q ρ S d I rx rl r1 p => ho pins s σ H x v Q I rx (h ρ S H d x Q _ rl r1 p)
theorem FnS.of {F : Value} {f : List D → Store → Res D} {r : List V → Hp → VK → Prop} (ho : CallR X F r)
    (h : ∀ ρ S H ds xs Q E, Rl G ρ S H → RVs G ρ H ds xs → Post G ρ H (f ds S) Q E → r xs H Q) : FnS G X W F f :=
  fun pins s σ H xs us Q ρ S ds I r rl r1 p => ho pins s σ H xs us Q I r (h ρ S H ds xs Q _ rl r1 p)
end

section
variable {G : Gx} {X : Cx} {W : WX} {a b c e : Expr} {es : List Expr} {ma mb mc m : ME} {t u : MT} {pos : Pos}
theorem se_of {tr : TE} (h : PE X e tr) (i : ∀ σ H Q ρ σs S, Rl G ρ S H → RE G ρ H σs σ → Post G ρ H (m σs S) Q (EW W σ) → tr σ H Q) : SE G X W e m :=
  PE.weak h fun σ H Q ⟨ρ, σs, S, rl, re, p⟩ => i σ H Q ρ σs S rl re p
theorem se_var (i : Nat) {x : Str} (hN : X.N[i]? = some x := by rfl) (hv : Vis X.env.scope x := by first | exact Or.inl rfl | exact Or.inr (Or.inl rfl) | exact Or.inr (Or.inr rfl)) (hd : (x == ("__debug__" : Str)) = false := by decide)
    (hcd : (x == ("__classdict__" : Str)) = false := by decide) : SE G X W (.Name x pos) (eVar i) := by
  refine se_of (pe_var hN hv hd hcd) fun σ H Q ρ σs S rl re p => ?_
  unfold eVar at p
  cases q : σs[i]? with
  | none => rw [q] at p; exact p.elim
  | some o =>
    cases o with
    | none => rw [q] at p; exact p.elim
    | some d =>
      rw [q] at p
      obtain ⟨v, h1, h2⟩ := re.get i d q
      exact ⟨v, h1, post_ok p rl h2⟩
theorem se_int {i : Int} {j : Nat} : SE G X W (.Constant (.int i) j pos) (eC (.int i)) := se_of pe_int fun _ _ _ _ _ _ rl _ p => post_ok p rl (.int i)
theorem se_bl {i : Bool} {j : Nat} : SE G X W (.Constant (.bool i) j pos) (eC (.bl i)) := se_of pe_bl fun _ _ _ _ _ _ rl _ p => post_ok p rl (.bl i)
theorem se_non {j : Nat} : SE G X W (.Constant .none j pos) (eC .non) := se_of pe_non fun _ _ _ _ _ _ rl _ p => post_ok p rl .non
theorem rv_str {ρ : Wd} {H : Hp} (x : Str) : RV G ρ H (.str x.cps.toList) (.str x) := by
  have h : RV G ρ H (.str x.cps.toList) (.str ⟨x.cps.toList.toArray⟩) := .str x.cps.toList
  simpa using h
theorem se_str {x : Str} {j : Nat} (l : List Nat) (hl : x.cps.toList = l := by rfl) : SE G X W (.Constant (.str x) j pos) (eC (.str l)) := by
  subst hl
  exact se_of pe_str fun _ _ _ _ _ _ rl _ p => post_ok p rl (rv_str x)
/-- a constant of the module -/
theorem se_glob {x : Str} {v : V} {w : Value} {d : D} (hg : Gl X x) (hm : X.mg x = some w) (r : RelV v w) (rv : ∀ ρ H, RV G ρ H d v) (hdb : (x == ("__debug__" : Str)) = false := by decide) : SE G X W (.Name x pos) (eC d) :=
  se_of (pe_glob hg hm r hdb) fun _ _ _ _ _ _ rl _ p => post_ok p rl (rv _ _)
theorem se_bin {op : Operator} {f : D → D → Store → Res D} (ho : OpS G X W (binaryOp op) f) (ha : SE G X W a ma) (hb : SE G X W b mb) : SE G X W (.BinOp a op b pos) (eBin f ma mb) :=
  ⟨fun pins s σ H Q I ⟨ρ, σs, S, rl, re, p⟩ => wpAny_BinOp (ha.go I rl re p fun v s1 x H1 ρ1 S1 d I1 rx l1 rl1 re1 rv1 p1 => hb.go I1 rl1 re1 p1 fun u s2 y H2 ρ2 S2 e I2 ry l2 rl2 re2 rv2 p2 =>
    ho pins s2 σ H2 x y v u Q ρ2 S2 d e I2 rx ry rl2 (rv1.mono l2) rv2 p2)⟩
theorem se_un {op : UnaryOp} {f : D → Store → Res D} (ho : UnS G X W (unaryOp op) f) (ha : SE G X W a ma) : SE G X W (.UnaryOp op a pos) (eUn f ma) :=
  ⟨fun pins s σ H Q I ⟨ρ, σs, S, rl, re, p⟩ => UnaryOp_ (ha.go I rl re p fun v s1 x H1 ρ1 S1 d I1 rx l1 rl1 re1 rv1 p1 => ho pins s1 σ H1 x v Q ρ1 S1 d I1 rx rl1 rv1 p1)⟩
theorem se_cmp {op : CmpOp} {f : D → D → Store → Res D} (ho : OpS G X W (compareOp op) f) (ha : SE G X W a ma) (hb : SE G X W b mb) (hm : behindInMarks op b = false := by first | exact nobehind _ (by decide) (by decide) | rfl) : SE G X W (.Compare a [op] [b] pos) (eBin f ma mb) :=
  ⟨fun pins s σ H Q I ⟨ρ, σs, S, rl, re, p⟩ => wpAny_Compare1 (ha.go I rl re p fun v s1 x H1 ρ1 S1 d I1 rx l1 rl1 re1 rv1 p1 => hb.go I1 rl1 re1 p1 fun u s2 y H2 ρ2 S2 e I2 ry l2 rl2 re2 rv2 p2 =>
    ho pins s2 σ H2 x y v u Q ρ2 S2 d e I2 rx ry rl2 (rv1.mono l2) rv2 p2) hm⟩
/-- a value that is a bool, behind a test's run -/
theorem bool_go {pins : List (Addr × Obj)} {σ : St} {H : Hp} {ρ : Wd} {d : D} {S : Store} {Q : Bool → Hp → Prop} {E : XK} {x : V} (p : PostT G ρ H (match d with | .bl b => .ok b S | _ => .bad) Q E) (rl : Rl G ρ S H) (rv : RV G ρ H d x) : ∃ k, x = .bl k ∧ Q k H := by
  cases rv with
  | bl b => exact ⟨b, rfl, p ρ H b Le.refl rl rfl⟩
  | _ => exact p.elim
/-- a comparison as a test -/
theorem st_cmp {op : CmpOp} {f : D → D → Store → Res D} (ho : OpS G X W (compareOp op) f) (ha : SE G X W a ma) (hb : SE G X W b mb) (hm : behindInMarks op b = false := by first | exact nobehind _ (by decide) (by decide) | rfl) : ST G X W (.Compare a [op] [b] pos) (tOf (eBin f ma mb)) := by
  refine ⟨fun pins s σ H Q I ⟨ρ, σs, S, rl, re, p⟩ => ?_⟩
  have p0 : PostT G ρ H ((ma σs S).bind fun x S1 => ((mb σs S1).bind fun y S2 => f x y S2).bind fun d S3 => match d with | .bl b => .ok b S3 | _ => .bad) Q (EW W σ) := by
    have p' := p
    unfold tOf eBin at p'
    rw [Res.bind_assoc] at p'
    exact p'
  refine wpAny_isTrue_Compare1 (ha.go I rl re p0 fun v s1 x H1 ρ1 S1 d I1 rx l1 rl1 re1 rv1 p1 => ?_) hm
  have p1' : PostT G ρ1 H1 ((mb σs S1).bind fun y S2 => (f d y S2).bind fun d S3 => match d with | .bl b => .ok b S3 | _ => .bad) Q (EW W σ) := by
    rw [Res.bind_assoc] at p1
    exact p1
  refine hb.go I1 rl1 re1 p1' fun u s2 y H2 ρ2 S2 e I2 ry l2 rl2 re2 rv2 p2 => ?_
  refine thn (ho pins s2 σ H2 x y v u _ ρ2 S2 d e I2 rx ry rl2 (rv1.mono l2) rv2 (p2.bind (R := RV G) (Q1 := fun z H3 => ∃ k, z = .bl k ∧ Q k H3) fun ρ3 H3 S3 z w l3 rl3 rv3 p3 => bool_go (pins := pins) (σ := σ) p3 rl3 rv3)) ?_
  rintro c s3 ⟨z, H3, I3, r3, k, rfl, q3⟩
  cases r3
  exact wpAny_truthy_bool ⟨H3, I3, q3⟩
theorem sw_and1 (ha : ST G X W a t) : SW G X W (.BoolOp .And [a] pos) t := pw_and1 ha
theorem sw_or1 (ha : ST G X W a t) : SW G X W (.BoolOp .Or [a] pos) t := pw_or1 ha
theorem sw_and {rest : List Expr} (ha : ST G X W a t) (hb : SW G X W (.BoolOp .And (b :: rest) pos) u) : SW G X W (.BoolOp .And (a :: b :: rest) pos) (tAnd t u) := by
  refine PW.weak (pw_and ha hb) fun σ H Q ⟨ρ, σs, S, rl, re, p⟩ => ?_
  refine ⟨ρ, σs, S, rl, re, p.bind (R := fun _ _ b c => b = c) fun ρ1 H1 S1 c1 c2 l1 rl1 rv1 p1 => ?_⟩
  subst rv1
  cases c1 with
  | true => exact ⟨ρ1, σs, S1, rl1, re.mono l1, p1⟩
  | false => exact p1 ρ1 H1 false Le.refl rl1 rfl
theorem sw_or {rest : List Expr} (ha : ST G X W a t) (hb : SW G X W (.BoolOp .Or (b :: rest) pos) u) : SW G X W (.BoolOp .Or (a :: b :: rest) pos) (tOr t u) := by
  refine PW.weak (pw_or ha hb) fun σ H Q ⟨ρ, σs, S, rl, re, p⟩ => ?_
  refine ⟨ρ, σs, S, rl, re, p.bind (R := fun _ _ b c => b = c) fun ρ1 H1 S1 c1 c2 l1 rl1 rv1 p1 => ?_⟩
  subst rv1
  cases c1 with
  | false => exact ⟨ρ1, σs, S1, rl1, re.mono l1, p1⟩
  | true => exact p1 ρ1 H1 true Le.refl rl1 rfl
theorem st_w (h : SW G X W e t) : ST G X W e t := h.pt
theorem st_not (ha : ST G X W a t) : ST G X W (.UnaryOp .Not a pos) (tNot t) := by
  refine PT.weak (pt_not ha) fun σ H Q ⟨ρ, σs, S, rl, re, p⟩ => ?_
  refine ⟨ρ, σs, S, rl, re, p.bind (R := fun _ _ b c => b = c) fun ρ1 H1 S1 c1 c2 l1 rl1 rv1 p1 => ?_⟩
  subst rv1
  exact p1 ρ1 H1 (!c1) Le.refl rl1 rfl
/-- and, or, not as values of bools -/
theorem se_one {op} (h : SE G X W a m) : SE G X W (.BoolOp op [a] pos) m := pe_one h
theorem tof_go {σ : St} {H : Hp} {ρ : Wd} {σs : En} {S : Store} {Q : VK} {E : XK} {f : Bool → Store → Res D} (rl : Rl G ρ S H) (p : Post G ρ H ((tOf m σs S).bind f) Q E) {Q1 : VK}
    (k : ∀ ρ1 H1 S1 c, Le G ρ H ρ1 H1 → Rl G ρ1 S1 H1 → Post G ρ1 H1 (f c S1) Q E → Q1 (.bl c) H1) : Post G ρ H (m σs S) Q1 E := by
  unfold tOf at p
  cases q : m σs S with
  | ok d S1 =>
    rw [q] at p
    intro ρ1 H1 v l1 rl1 rv1
    cases rv1 with
    | bl b => exact k ρ1 H1 S1 b l1 rl1 (PostR.le (r := f b S1) p l1)
    | _ => exact False.elim p
  | exc x S1 => rw [q] at p; exact p
  | bad => rw [q] at p; exact p
theorem se_and {rest : List Expr} (ha : SE G X W a ma) (hb : SE G X W (.BoolOp .And (b :: rest) pos) mb) : SE G X W (.BoolOp .And (a :: b :: rest) pos) (eAnd ma mb) := by
  refine se_of (pe_and ha hb) fun σ H Q ρ σs S rl re p => ?_
  refine ⟨ρ, σs, S, rl, re, tof_go (σ := σ) rl p fun ρ1 H1 S1 c l1 rl1 p1 => ⟨c, rfl, ?_⟩⟩
  cases c with
  | true => exact ⟨ρ1, σs, S1, rl1, re.mono l1, p1⟩
  | false => exact post_ok (S := S1) p1 rl1 (.bl false)
theorem se_or {rest : List Expr} (ha : SE G X W a ma) (hb : SE G X W (.BoolOp .Or (b :: rest) pos) mb) : SE G X W (.BoolOp .Or (a :: b :: rest) pos) (eOr ma mb) := by
  refine se_of (pe_or ha hb) fun σ H Q ρ σs S rl re p => ?_
  refine ⟨ρ, σs, S, rl, re, tof_go (σ := σ) rl p fun ρ1 H1 S1 c l1 rl1 p1 => ⟨c, rfl, ?_⟩⟩
  cases c with
  | false => exact ⟨ρ1, σs, S1, rl1, re.mono l1, p1⟩
  | true => exact post_ok (S := S1) p1 rl1 (.bl true)
theorem se_not (ha : SE G X W a ma) : SE G X W (.UnaryOp .Not a pos) (eNot ma) := by
  refine se_of (pe_not ha) fun σ H Q ρ σs S rl re p => ?_
  exact ⟨ρ, σs, S, rl, re, tof_go (σ := σ) rl p fun ρ1 H1 S1 c l1 rl1 p1 => ⟨c, rfl, post_ok (S := S1) p1 rl1 (.bl _)⟩⟩
theorem se_if (hc : ST G X W c t) (ha : SE G X W a ma) (hb : SE G X W b mb) : SE G X W (.IfExp c a b pos) (eIf t ma mb) := by
  refine se_of (pe_ifExp hc ha hb) fun σ H Q ρ σs S rl re p => ?_
  refine ⟨ρ, σs, S, rl, re, p.bind (R := fun _ _ b c => b = c) fun ρ1 H1 S1 c1 c2 l1 rl1 rv1 p1 => ?_⟩
  subst rv1
  cases c1 with
  | true => exact ⟨ρ1, σs, S1, rl1, re.mono l1, p1⟩
  | false => exact ⟨ρ1, σs, S1, rl1, re.mono l1, p1⟩
theorem sa_nil : SA G X W [] (aList []) := PA.weak pa_nil fun σ H Q ⟨ρ, σs, S, rl, re, p⟩ => p ρ H [] Le.refl rl .nil
theorem sa_cons {ms : List ME} (ha : SE G X W e m) (hr : SA G X W es (aList ms)) (hs : starEach (e :: es) X.env = (false, eval e X.env) :: starEach es X.env := by rfl) : SA G X W (e :: es) (aList (m :: ms)) := by
  refine PA.weak (pa_cons ha hr hs) fun σ H Q ⟨ρ, σs, S, rl, re, p⟩ => ?_
  refine ⟨ρ, σs, S, rl, re, PostR.bind (R := RV G) (r := m σs S) p fun ρ1 H1 S1 d v l1 rl1 rv1 p1 => ?_⟩
  refine ⟨ρ1, σs, S1, rl1, re.mono l1, PostR.bind (R := RVs G) (r := aList ms σs S1) p1 fun ρ2 H2 S2 ds vs l2 rl2 rv2 p2 => ?_⟩
  exact p2 ρ2 H2 _ Le.refl rl2 (.cons (rv1.mono l2) rv2)
theorem aList_len : ∀ {ms : List ME} {σs : En} {S S' : Store} {ds : List D}, aList ms σs S = .ok ds S' → ds.length = ms.length
  | [], σs, S, S', ds, h => by unfold aList at h; cases h; rfl
  | m :: ms, σs, S, S', ds, h => by
    unfold aList at h
    cases q : m σs S with
    | ok d S1 =>
      rw [q] at h
      cases q2 : aList ms σs S1 with
      | ok ds' S2 =>
        rw [Res.bind_ok, q2] at h
        cases h
        simp [aList_len q2]
      | exc x S2 => rw [Res.bind_ok, q2] at h; cases h
      | bad => rw [Res.bind_ok, q2] at h; cases h
    | exc x S1 => rw [q] at h; cases h
    | bad => rw [q] at h; cases h
theorem list_go {ms : List ME} {σ : St} {H : Hp} {ρ : Wd} {σs : En} {S : Store} {Q : VK} {E : XK} {f : List D → Store → Res D} (p : Post G ρ H ((aList ms σs S).bind f) Q E) {Q1 : List V → Hp → Prop}
    (k : ∀ ρ1 H1 S1 ds xs, Le G ρ H ρ1 H1 → Rl G ρ1 S1 H1 → RVs G ρ1 H1 ds xs → xs.length = ms.length → Post G ρ1 H1 (f ds S1) Q E → Q1 xs H1) : PostA G ρ H (aList ms σs S) Q1 E := by
  cases q : aList ms σs S with
  | ok ds S1 =>
    rw [q] at p
    exact fun ρ1 H1 xs l1 rl1 rv1 => k ρ1 H1 S1 ds xs l1 rl1 rv1 (by rw [← rv1.length, aList_len q]) (PostR.le (r := f ds S1) p l1)
  | exc x S1 => rw [q] at p; exact p
  | bad => rw [q] at p; exact p
theorem se_tup {ms : List ME} {x1} (h : SA G X W es (aList ms)) (hz : ms.length ≤ sizeLine := by first | decide | (rw [sizeLine_eq]; decide)) : SE G X W (.Tuple es x1 pos) (eTup ms) := by
  refine se_of (pe_tup h) fun σ H Q ρ σs S rl re p => ?_
  refine ⟨ρ, σs, S, rl, re, list_go (σ := σ) p fun ρ1 H1 S1 ds xs l1 rl1 rv1 hl p1 => ⟨by rw [hl]; exact hz, fun a hn => post_new p1 rl1 hn (.tup upd_same (rv1.mono (Le.new hn)))⟩⟩
theorem se_lst {ms : List ME} (h : SA G X W es (aList ms)) (hz : ms.length ≤ sizeLine := by first | decide | (rw [sizeLine_eq]; decide)) : SE G X W (.List es pos) (eLst ms) := by
  refine se_of (pe_lst h) fun σ H Q ρ σs S rl re p => ?_
  refine ⟨ρ, σs, S, rl, re, list_go (σ := σ) p fun ρ1 H1 S1 ds xs l1 rl1 rv1 hl p1 => ⟨by rw [hl]; exact hz, fun a hn => ?_⟩⟩
  exact p1 (ρ1.push a) _ _ (Le.push hn) (rl1.push hn (.lst rv1)) (RV.new rl1)
theorem se_lv {ms : List ME} (h : SA G X W es (aList ms)) (hz : ms.length ≤ sizeLine := by first | decide | (rw [sizeLine_eq]; decide)) : SE G X W (.List es pos) (eLv ms) := by
  refine se_of (pe_lst h) fun σ H Q ρ σs S rl re p => ?_
  refine ⟨ρ, σs, S, rl, re, list_go (σ := σ) p fun ρ1 H1 S1 ds xs l1 rl1 rv1 hl p1 => ⟨by rw [hl]; exact hz, fun a hn => post_new p1 rl1 hn (.lv (rl1.no hn) upd_same (rv1.mono (Le.new hn)))⟩⟩
/-- a built-in function, a built-in class by its name -/
theorem se_callB {x : Str} {id : String} {f : List D → Store → Res D} {p : Pos} {ma : MA} (hc : FnS G X W (.builtin id) f) (hg : Gl X x) (hm : X.mg x = none) (hv : bootBuiltins x = some (.builtin id)) (ha : SA G X W (e :: es) ma) (hn : x ≠ "__name__" := by decide) (hdb : (x == ("__debug__" : Str)) = false := by decide)
    (he : starEach (e :: es) X.env = (false, eval e X.env) :: starEach es X.env := by rfl) (hpl : (backTo pos (starEach es X.env)).any (·.1) = false := by rfl) : SE G X W (.Call (.Name x p) (e :: es) [] pos) (eFn f ma) := by
  refine ⟨fun pins s σ H Q I ⟨ρ, σs, S, rl, re, p⟩ => ?_⟩
  refine wpAny_Call_Name_kw (ld_blt I hg hm hv ?_ hn hdb)
  exact PyProof.Rows.callWith_builtin1 (ha.go I rl re p fun us s1 xs H1 ρ1 S1 ds I1 rx l1 rl1 re1 rv1 p1 => hc pins s1 σ H1 xs us Q ρ1 S1 ds I1 rx rl1 rv1 p1) he hpl
theorem se_callTy {x : Str} {T : String} {f : List D → Store → Res D} {p : Pos} {ma : MA} (hc : FnS G X W (.type T) f) (hg : Gl X x) (hm : X.mg x = none) (hv : bootBuiltins x = some (.type T)) (ha : SA G X W (e :: es) ma) (hn : x ≠ "__name__" := by decide) (hdb : (x == ("__debug__" : Str)) = false := by decide)
    (he : starEach (e :: es) X.env = (false, eval e X.env) :: starEach es X.env := by rfl) (hpl : (backTo pos (starEach es X.env)).any (·.1) = false := by rfl) : SE G X W (.Call (.Name x p) (e :: es) [] pos) (eFn f ma) := by
  refine ⟨fun pins s σ H Q I ⟨ρ, σs, S, rl, re, p⟩ => ?_⟩
  refine wpAny_Call_Name_kw (ld_blt I hg hm hv ?_ hn hdb)
  exact PyProof.Rows.callWith_type1 (ha.go I rl re p fun us s1 xs H1 ρ1 S1 ds I1 rx l1 rl1 re1 rv1 p1 => hc pins s1 σ H1 xs us Q ρ1 S1 ds I1 rx rl1 rv1 p1) he hpl
end
end L2.Mi

set_option Elab.async false
set_option linter.all false
set_option maxRecDepth 100000
set_option maxHeartbeats 4000000
namespace L2.Mi
open PySem PySem.Spec PyProof.Rows

section
variable {G : Gx} {X : Cx} {W : WX} {st : Stmt} {sts rest : List Stmt} {a b e : Expr} {ma mb m : ME} {t : MT} {k l : MS} {pos : Pos}
theorem ss_of {tr : TS} (h : PS X st tr) (i : ∀ σ H Dn ρ σs S, Rl G ρ S H → RE G ρ H σs σ → PostS G ρ H (k σs S) Dn W → tr Dn σ H) : SS G X W st k :=
  PS.weak h fun Dn σ H ⟨ρ, σs, S, rl, re, p⟩ => i σ H Dn ρ σs S rl re p
theorem sss_nil : SSs G X W [] sNext := PSs.weak pss_nil fun Dn σ H ⟨ρ, σs, S, rl, re, p⟩ => p ρ H σ Le.refl rl re
theorem sss_cons (h1 : SS G X W st k) (h2 : SSs G X W rest l) : SSs G X W (st :: rest) (sSeq k l) := by
  refine PSs.weak (pss_cons h1 h2) fun Dn σ H ⟨ρ, σs, S, rl, re, p⟩ => ?_
  refine ⟨ρ, σs, S, rl, re, ?_⟩
  unfold sSeq at p
  cases q : k σs S with
  | nx σ1 S1 =>
    rw [q] at p
    exact fun ρ1 H1 σ2 l1 rl1 re1 => ⟨ρ1, σ1, S1, rl1, re1, PostS.le (r := l σ1 S1) p l1⟩
  | rt d S1 => rw [q] at p; exact p
  | bk σ1 S1 => rw [q] at p; exact p
  | ct σ1 S1 => rw [q] at p; exact p
  | exc x σ1 S1 => rw [q] at p; exact p
  | bad => rw [q] at p; exact p
theorem sss_one (h1 : SS G X W st k) : SSs G X W [st] k := pss_one h1
/-- an expression's run inside a statement -/
theorem do_go {σ : St} {H : Hp} {ρ : Wd} {σs : En} {S : Store} {Dn : Ends} {f : D → Store → RS} (re : RE G ρ H σs σ) (p : PostS G ρ H (match m σs S with | .ok d S1 => f d S1 | .exc x S1 => .exc x σs S1 | .bad => .bad) Dn W) {Q1 : VK}
    (k : ∀ ρ1 H1 S1 d v, Le G ρ H ρ1 H1 → Rl G ρ1 S1 H1 → RV G ρ1 H1 d v → PostS G ρ1 H1 (f d S1) Dn W → Q1 v H1) : Post G ρ H (m σs S) Q1 (EW W σ) := by
  cases q : m σs S with
  | ok d S1 =>
    rw [q] at p
    exact fun ρ1 H1 v l1 rl1 rv1 => k ρ1 H1 S1 d v l1 rl1 rv1 (PostS.le (r := f d S1) p l1)
  | exc x S1 =>
    rw [q] at p
    exact fun ρ1 H1 c dd l1 rl1 rx => p ρ1 H1 σ c dd l1 rl1 (re.mono l1) rx
  | bad => rw [q] at p; exact p
theorem ss_expr (he : SE G X W e m) (hs : swapsWith e none pos.line X.env = pure false := by rfl) : SS G X W (.Expr e pos) (sDrop m) := by
  refine ss_of (ps_expr he hs) fun σ H Dn ρ σs S rl re p => ?_
  exact ⟨ρ, σs, S, rl, re, do_go re p fun ρ1 H1 S1 d v l1 rl1 rv1 p1 => p1 ρ1 H1 σ Le.refl rl1 (re.mono l1)⟩
theorem ss_ret (he : SE G X W e m) : SS G X W (.Return (some e) pos) (sRet m) := by
  refine ss_of (ps_ret he) fun σ H Dn ρ σs S rl re p => ?_
  exact ⟨ρ, σs, S, rl, re, do_go re p fun ρ1 H1 S1 d v l1 rl1 rv1 p1 => p1 ρ1 H1 v Le.refl rl1 rv1⟩
theorem ss_if {c : Expr} {sa sb : List Stmt} (hc : ST G X W c t) (ha : SSs G X W sa k) (hb : SSs G X W sb l) : SS G X W (.If c sa sb pos) (sIf t k l) := by
  refine ss_of (ps_if hc ha hb) fun σ H Dn ρ σs S rl re p => ?_
  refine ⟨ρ, σs, S, rl, re, ?_⟩
  unfold sIf at p
  cases q : t σs S with
  | ok c1 S1 =>
    rw [q] at p
    intro ρ1 H1 b l1 rl1 e
    subst e
    cases c1 with
    | true => exact ⟨ρ1, σs, S1, rl1, re.mono l1, PostS.le (r := k σs S1) p l1⟩
    | false => exact ⟨ρ1, σs, S1, rl1, re.mono l1, PostS.le (r := l σs S1) p l1⟩
  | exc x S1 =>
    rw [q] at p
    exact fun ρ1 H1 c dd l1 rl1 rx => p ρ1 H1 σ c dd l1 rl1 (re.mono l1) rx
  | bad => rw [q] at p; exact p

def PostG (G : Gx) (ρ : Wd) (H : Hp) (r : Res En) (Q : St → Hp → Prop) : Prop := match r with
  | .ok σs S => ∀ ρ' H' σ', Le G ρ H ρ' H' → Rl G ρ' S H' → RE G ρ' H' σs σ' → Q σ' H'
  | _ => False
def tmg (G : Gx) (g : MG) : TG := fun v σ H Q => ∃ ρ σs S d, Rl G ρ S H ∧ RE G ρ H σs σ ∧ RV G ρ H d v ∧ PostG G ρ H (g d σs S) Q
def tmgs (G : Gx) (gs : List MG) : TGs := fun vs σ H Q => ∃ ρ σs S ds, Rl G ρ S H ∧ RE G ρ H σs σ ∧ RVs G ρ H ds vs ∧ PostG G ρ H (gAll gs ds σs S) Q
abbrev SG (G : Gx) (X : Cx) (e : Expr) (g : MG) : Prop := PG X e (tmg G g)
abbrev SGs (G : Gx) (X : Cx) (es : List Expr) (gs : List MG) : Prop := PGs X es (tmgs G gs)
theorem PostG.le {ρ ρ' : Wd} {H H' : Hp} {r : Res En} {Q : St → Hp → Prop} (p : PostG G ρ H r Q) (l : Le G ρ H ρ' H') : PostG G ρ' H' r Q := by
  cases r with
  | ok d S => exact fun ρ2 H2 v l2 rl h => p ρ2 H2 v (l.trans l2) rl h
  | exc x S => exact p
  | bad => exact p
theorem PG.weak {e : Expr} {t t' : TG} (h : PG X e t) (i : ∀ v σ H Q, t' v σ H Q → t v σ H Q) : PG X e t' := ⟨fun pins s σ H v u Q I r q => h.run pins s σ H v u Q I r (i _ _ _ _ q)⟩
theorem PGs.weak {es : List Expr} {t t' : TGs} (h : PGs X es t) (i : ∀ v σ H Q, t' v σ H Q → t v σ H Q) : PGs X es t' := ⟨fun pins s σ H v u Q I r q => h.run pins s σ H v u Q I r (i _ _ _ _ q)⟩
theorem sg_name {i : Nat} {x : Str} (hN : X.N.Nodup) (hi : X.N[i]? = some x) (hx : Loc X.env.scope x) (hf : X.fn x = true ∨ X.env.scope.names.lookup x = some .local := by first | exact .inl rfl | exact .inr rfl | assumption) : SG G X (.Name x pos) (gName i) :=
  PG.weak (pg_name hN hi hx hf) fun v σ H Q ⟨ρ, σs, S, d, rl, re, rv, p⟩ => p ρ H _ Le.refl rl (re.set i rv)
theorem sgs_nil : SGs G X [] [] := PGs.weak pgs_nil fun vs σ H Q ⟨ρ, σs, S, ds, rl, re, rv, p⟩ => by
  cases rv with
  | nil => exact ⟨rfl, p ρ H σ Le.refl rl re⟩
  | cons _ _ => exact False.elim p
theorem sgs_cons {es : List Expr} {g : MG} {gs : List MG} (h1 : SG G X e g) (h2 : SGs G X es gs) (hs : (assignEach (e :: es) X.env).map (·.2) = assign e X.env :: (assignEach es X.env).map (·.2) := by rfl) : SGs G X (e :: es) (g :: gs) := by
  refine PGs.weak (pgs_cons h1 h2 hs) fun vs σ H Q ⟨ρ, σs, S, ds, rl, re, rv, p⟩ => ?_
  cases rv with
  | nil => exact False.elim p
  | @cons d ds v vs r1 r2 =>
    refine ⟨v, vs, rfl, ρ, σs, S, d, rl, re, r1, ?_⟩
    have p' : PostG G ρ H ((g d σs S).bind fun σ1 S1 => gAll gs ds σ1 S1) Q := p
    cases q : g d σs S with
    | ok σ1 S1 =>
      rw [q] at p'
      exact fun ρ1 H1 σ2 l1 rl1 re1 => ⟨ρ1, σ1, S1, ds, rl1, re1, r2.mono l1, PostG.le (r := gAll gs ds σ1 S1) p' l1⟩
    | exc x S1 => rw [q] at p'; exact p'
    | bad => rw [q] at p'; exact p'
theorem gAll_len : ∀ {gs : List MG} {ds : List D} {σs σ' : En} {S S' : Store}, gAll gs ds σs S = .ok σ' S' → ds.length = gs.length
  | [], [], _, _, _, _, _ => rfl
  | [], _ :: _, _, _, _, _, h => by cases h
  | _ :: _, [], _, _, _, _, h => by cases h
  | g :: gs, d :: ds, σs, σ', S, S', h => by
    have h' : ((g d σs S).bind fun σ1 S1 => gAll gs ds σ1 S1) = .ok σ' S' := h
    cases q : g d σs S with
    | ok σ1 S1 => rw [q] at h'; simp [gAll_len h']
    | exc x S1 => rw [q] at h'; cases h'
    | bad => rw [q] at h'; cases h'
theorem sg_tup {es : List Expr} {j : Nat} {gs : List MG} (c : Cc G X W) (h : SGs G X es gs) (hn : (assignEach es X.env).length = gs.length := by rfl) (hst : (assignEach es X.env).findIdx? (·.1) = none := by rfl) : SG G X (.Tuple es j pos) (gTup gs) := by
  refine PG.weak (pg_tup (n := gs.length) c.calm h hn hst) fun v σ H Q ⟨ρ, σs, S, d, rl, re, rv, p⟩ => ?_
  cases rv with
  | @tup ds a xs ht hr =>
    have p' : PostG G ρ H (gAll gs ds σs S) Q := p
    refine ⟨a, xs, rfl, SqT.of ht, ?_, ρ, σs, S, ds, rl, re, hr, p'⟩
    cases q : gAll gs ds σs S with
    | ok σ1 S1 => rw [← hr.length]; exact gAll_len q
    | exc x S1 => rw [q] at p'; exact p'.elim
    | bad => rw [q] at p'; exact p'.elim
  | _ => exact False.elim p
/-- o[i] = v -/
def StS (G : Gx) (X : Cx) (f : D → D → D → Store → Option Store) : Prop :=
  ∀ (pins : List (Addr × Obj)) (s : Shared) (σ : St) (H : Hp) (x y z : V) (v u w : Value) (Q : Hp → Prop) (ρ : Wd) (S S' : Store) (d1 d2 d3 : D), Inv X pins σ H s → RelV x v → RelV y u → RelV z w → Rl G ρ S H → RV G ρ H d1 x → RV G ρ H d2 y → RV G ρ H d3 z →
    f d1 d2 d3 S = some S' → (∀ ρ' H', Le G ρ H ρ' H' → Rl G ρ' S' H' → Q H') → wpAny (model X.prog X.w) X.A (setItem v u w) (fun _ s' => ∃ H', Inv X pins σ H' s' ∧ Q H') X.xe s
def gSub (mo mi : ME) (f : D → D → D → Store → Option Store) : MG := fun d σ S => match (mo σ S).bind fun o S1 => (mi σ S1).bind fun i S2 => (match f o i d S2 with | some S3 => Res.ok () S3 | none => .bad) with
  | .ok _ S3 => .ok σ S3
  | _ => .bad
theorem sg_sub {o i : Expr} {mo mi : ME} {f : D → D → D → Store → Option Store} (ho : SE G X W o mo) (hi : SE G X W i mi) (hs : StS G X f)
    (ha : ∀ v, assign (.Subscript o i pos) X.env v = (do
      let ov ← holding [v] (eval o X.env)
      let iv ← holding [v, ov] (eval i X.env)
      standAt pos
      holding [v, ov, iv] (setItem ov iv v)
      release [v, ov, iv] []) := by intro _; rfl) : SG G X (.Subscript o i pos) (gSub mo mi f) := by
  refine ⟨fun pins s σ H v u Q I r ⟨ρ, σs, S, d, rl, re, rv, p⟩ => ?_⟩
  rw [ha]
  have p0 : PostR (α := Unit) (β := Unit) G (fun _ _ _ _ => True) ρ H ((mo σs S).bind fun o S1 => (mi σs S1).bind fun i S2 => (match f o i d S2 with | some S3 => Res.ok () S3 | none => .bad)) (fun _ H' => Q σ H') (EW W σ) := by
    unfold gSub at p
    cases q : ((mo σs S).bind fun o S1 => (mi σs S1).bind fun i S2 => (match f o i d S2 with | some S3 => Res.ok () S3 | none => .bad)) with
    | ok x S3 => rw [q] at p; exact fun ρ1 H1 _ l1 rl1 _ => p ρ1 H1 σ l1 rl1 (re.mono l1)
    | exc x S3 => rw [q] at p; exact p.elim
    | bad => rw [q] at p; exact p.elim
  refine wpAny_bind (wpAny_holding (ho.go I rl re p0 fun ov s1 x H1 ρ1 S1 d1 I1 r1 l1 rl1 re1 rv1 p1 => ?_))
  refine wpAny_bind (wpAny_holding (hi.go I1 rl1 re1 p1 fun iv s2 y H2 ρ2 S2 d2 I2 r2 l2 rl2 re2 rv2 p2 => ?_))
  cases q : f d1 d2 d S2 with
  | none => rw [q] at p2; exact False.elim p2
  | some S3 =>
    rw [q] at p2
    refine wpAny_bind (wpAny_standAt (wpAny_bind (wpAny_holding (thn (hs pins s2 σ H2 x y v ov iv u (fun H3 => Q σ H3) ρ2 S2 S3 d1 d2 d I2 r1 r2 r rl2 (rv1.mono l2) rv2 (rv.mono (l1.trans l2)) q (fun ρ3 H3 l3 rl3 => p2 ρ3 H3 () l3 rl3 trivial)) fun _ s3 ⟨H3, I3, q3⟩ => ?_))))
    exact wpAny_release ⟨σ, H3, I3, q3⟩
/-- target = value -/
theorem asg_go {g : MG} {σ : St} {H : Hp} {ρ : Wd} {σs : En} {S : Store} {Dn : Ends} (rl : Rl G ρ S H) (re : RE G ρ H σs σ) (p : PostS G ρ H (sAsg m g σs S) Dn W) : tm G W m σ H fun x H1 => tmg G g x σ H1 Dn.nx := by
  refine ⟨ρ, σs, S, rl, re, do_go (f := fun d S1 => match g d σs S1 with | .ok σ2 S2 => .nx σ2 S2 | _ => .bad) re p fun ρ1 H1 S1 d v l1 rl1 rv1 p1 => ⟨ρ1, σs, S1, d, rl1, re.mono l1, rv1, ?_⟩⟩
  cases q : g d σs S1 with
  | ok σ2 S2 => simp only [q] at p1; exact p1
  | exc x S2 => simp only [q] at p1; exact p1
  | bad => simp only [q] at p1; exact p1
theorem ss_asg {tg : Expr} {g : MG} (he : SE G X W e m) (hg : SG G X tg g) (hs : swapsWithSole [tg] e pos.line X.env = pure false := by rfl) (hw : swappedStores [tg] e X.env = pure none := by rfl)
    (h1 : (assignEach [tg] X.env).map (·.2) = [assign tg X.env] := by rfl) : SS G X W (.Assign [tg] e pos) (sAsg m g) :=
  ss_of (ps_asg he hg hs hw h1) fun σ H Dn ρ σs S rl re p => asg_go rl re p
theorem ss_set {i : Nat} {x : Str} {pos' : Pos} (hN : X.N.Nodup) (hi : X.N[i]? = some x) (hx : Loc X.env.scope x) (he : SE G X W e m) (hs : swapsWith e (some (.Name x pos')) pos.line X.env = pure false := by rfl) (hf : X.fn x = true ∨ X.env.scope.names.lookup x = some .local := by first | exact .inl rfl | exact .inr rfl | assumption) :
    SS G X W (.Assign [.Name x pos'] e pos) (sSet i m) := by
  refine ss_of (ps_set hN hi hx he hs hf) fun σ H Dn ρ σs S rl re p => ?_
  refine ⟨ρ, σs, S, rl, re, do_go re p fun ρ1 H1 S1 d v l1 rl1 rv1 p1 => p1 ρ1 H1 _ Le.refl rl1 ((re.mono l1).set i rv1)⟩
/-- a, b = x, y -/
def sPar (i j : Nat) (a b : ME) : MS := fun σ S => match aList [a, b] σ S with
  | .ok [x, y] S1 => .nx ((σ.set i (some x)).set j (some y)) S1
  | .exc x S1 => .exc x σ S1
  | _ => .bad
theorem ss_par {i j : Nat} {x y : Str} {px py pt : Pos} {kt k2 pt2} (hc : X.calm = true) (hN : X.N.Nodup) (hi : X.N[i]? = some x) (hj : X.N[j]? = some y) (hij : i ≠ j)
    (hx : X.env.scope.names.lookup x = some .local) (hy : X.env.scope.names.lookup y = some .local) (ha : SA G X W [a, b] (aList [ma, mb])) (hs : swappedStores [.Tuple [.Name x px, .Name y py] kt pt] (.Tuple [a, b] k2 pt2) X.env = pure (some [x, y]) := by rfl) :
    SS G X W (.Assign [.Tuple [.Name x px, .Name y py] kt pt] (.Tuple [a, b] k2 pt2) pos) (sPar i j ma mb) := by
  refine ss_of (ps_par hc hN hi hj hij hx hy ha hs) fun σ H Dn ρ σs S rl re p => ?_
  refine ⟨ρ, σs, S, rl, re, ?_⟩
  unfold sPar at p
  cases q : aList [ma, mb] σs S with
  | ok ds S1 =>
    rw [q] at p
    have hl : ds.length = 2 := aList_len q
    match ds, hl, p with
    | [d1, d2], _, p =>
      intro ρ1 H1 vs l1 rl1 rv1
      cases rv1 with
      | cons r1 r2 =>
        cases r2 with
        | cons r2 r3 =>
          cases r3
          exact ⟨_, _, rfl, p ρ1 H1 _ l1 rl1 (((re.mono l1).set i r1).set j r2)⟩
  | exc x S1 =>
    rw [q] at p
    exact fun ρ1 H1 c dd l1 rl1 rx => p ρ1 H1 σ c dd l1 rl1 (re.mono l1) rx
  | bad => rw [q] at p; exact p
/-- what is locked stays -/
def Fz (H H' : Hp) : Prop := ∀ a o u, H a = some (.frz o u) → H' a = some (.frz o u)
/-- an iterator of HandS and a source -/
def JR (G : Gx) (ρ0 : Wd) (H0 : Hp) (src : Src) (J : It) : Prop := ∀ ρ S H, Mv G ρ0 H0 ρ H → Fz H0 H → Rl G ρ S H → ∀ i,
  (∀ d, src i S = some (some d) → J.go i H ∧ ∀ x H', J.yld i H x H' → Le G ρ H ρ H' ∧ Rl G ρ S H' ∧ RV G ρ H' d x) ∧ (src i S = some none → J.stop i H)
abbrev PostI (G : Gx) := PostR (α := Src) (β := It) G (JR G)
def tmi (G : Gx) (W : WX) (m : MI) : TI := fun σ H R => ∃ ρ σs S, Rl G ρ S H ∧ RE G ρ H σs σ ∧ PostI G ρ H (m σs S) R (fun c d H' => W c d σ H')
abbrev SI (G : Gx) (X : Cx) (W : WX) (tg iter : Expr) (m : MI) : Prop := PI X tg iter (tmi G W m)
theorem JR.le {ρ0 ρ1 : Wd} {H0 H1 : Hp} {src : Src} {J : It} (h : JR G ρ0 H0 src J) (l : Le G ρ0 H0 ρ1 H1) : JR G ρ1 H1 src J := fun ρ S H l' kz rl i => h ρ S H (l.mv.trans l') (fun a o u q => kz a o u (l.kz a o u q)) rl i
theorem PI.weak {tg iter : Expr} {w w' : TI} (h : PI X tg iter w) (i : ∀ σ H R, w' σ H R → w σ H R) : PI X tg iter w' := ⟨fun pins s σ H R I q => h.run pins s σ H R I (i _ _ _ q)⟩
theorem ss_for {tg iter : Expr} {body : List Stmt} {mi : MI} {g : MG} (n : Nat) (cc : Cc G X W) (hi : SI G X W tg iter mi) (hg : SG G X tg g) (hb : SSs G X W body k) (hs : ∀ x, foldedSetIterable iter X.env x = pure x := by intro _; rfl) :
    SS G X W (.For tg iter body [] pos) (sFor mi g k n) := by
  refine ss_of (ps_for cc.hp cc.calm hi hg hb hs) fun σ H Dn ρ σs S rl re p => ?_
  refine ⟨ρ, σs, S, rl, re, ?_⟩
  unfold sFor at p
  cases q : mi σs S with
  | exc x S1 =>
    simp only [q] at p
    exact fun ρ1 H1 c dd l1 rl1 rx => p ρ1 H1 σ c dd l1 rl1 (re.mono l1) rx
  | bad => simp only [q] at p; exact p
  | ok src S1 =>
    simp only [q] at p
    intro ρ1 H1 J l1 rl1 jr
    refine ⟨fun i m σ H => ∃ ρ σs S, Le G ρ1 H1 ρ H ∧ Rl G ρ S H ∧ RE G ρ H σs σ ∧ PostS G ρ H (forGo src g k m i σs S) Dn W, ⟨n, ρ1, σs, S1, Le.refl, rl1, re.mono l1, PostS.le p l1⟩, ?_⟩
    rintro i m σ H ⟨ρ, σs, S, l0, rl, re, p⟩
    cases m with
    | zero => exact p.elim
    | succ m =>
      unfold forGo at p
      obtain ⟨j1, j2⟩ := jr ρ S H l0.mv l0.kz rl i
      cases q : src i S with
      | none => simp only [q] at p; exact p.elim
      | some o =>
        cases o with
        | none => simp only [q] at p; exact .inl ⟨j2 q, p ρ H σ Le.refl rl re⟩
        | some d =>
          simp only [q] at p
          obtain ⟨go, yl⟩ := j1 d q
          refine .inr ⟨go, fun σ' H' => ∃ ρ σs S, Le G ρ1 H1 ρ H' ∧ Rl G ρ S H' ∧ RE G ρ H' σs σ' ∧ PostS G ρ H' (forGo src g k m (i + 1) σs S) Dn W, fun σ' H' w => ⟨m, Nat.lt_succ_self m, w⟩, fun x H' y => ?_⟩
          obtain ⟨l2, rl2, rv2⟩ := yl x H' y
          refine ⟨ρ, σs, S, d, rl2, re.mono l2, rv2, ?_⟩
          cases q1 : g d σs S with
          | exc x S2 => simp only [q1] at p; exact p
          | bad => simp only [q1] at p; exact p
          | ok σ2 S2 =>
            simp only [q1] at p
            intro ρ3 H3 σ3 l3 rl3 re3
            refine ⟨ρ3, σ2, S2, rl3, re3, ?_⟩
            have l03 : Le G ρ H ρ3 H3 := l2.trans l3
            cases q2 : k σ2 S2 with
            | nx σ4 S4 => simp only [q2] at p; exact fun ρ4 H4 σ' l4 rl4 re4 => ⟨ρ4, σ4, S4, l0.trans (l03.trans l4), rl4, re4, PostS.le p (l03.trans l4)⟩
            | ct σ4 S4 => simp only [q2] at p; exact fun ρ4 H4 σ' l4 rl4 re4 => ⟨ρ4, σ4, S4, l0.trans (l03.trans l4), rl4, re4, PostS.le p (l03.trans l4)⟩
            | bk σ4 S4 => simp only [q2] at p; exact fun ρ4 H4 σ' l4 rl4 re4 => p ρ4 H4 σ' (l03.trans l4) rl4 re4
            | rt d S4 => simp only [q2] at p; exact fun ρ4 H4 v l4 rl4 re4 => p ρ4 H4 v (l03.trans l4) rl4 re4
            | exc x σ4 S4 => simp only [q2] at p; exact fun ρ4 H4 σ' c dd l4 rl4 re4 rx => p ρ4 H4 σ' c dd (l03.trans l4) rl4 re4 rx
            | bad => simp only [q2] at p; exact p
end
end L2.Mi

set_option Elab.async false
set_option linter.all false
set_option maxRecDepth 100000
set_option maxHeartbeats 4000000
namespace L2.Mi
open PySem PySem.Spec PyProof.Rows

abbrev lim : Nat := 1000000
theorem lim_le {n : Nat} (h : n ≤ lim) : n ≤ sizeLine := by rw [sizeLine_eq]; unfold lim at h; omega
theorem lim_lt {n : Nat} (h : n < lim) : n < sizeLine := by rw [sizeLine_eq]; unfold lim at h; omega

def tupD : D → Option (List D)
  | .tup ds => some ds
  | .kt ds => some ds
  | _ => none
section
variable {G : Gx} {X : Cx} {W : WX} {ρ : Wd} {S : Store} {H : Hp} {d : D} {x : V} {ds : List D}
theorem sqT_written {K : PySem.W.Frag} {a : Addr} {xs : List V} (h : SqT K (fun _ => none) a xs) : SqT K H a xs := by
  rcases h with (h | ⟨o, h⟩) | h
  · cases h
  · cases h
  · exact .inr h
theorem tupD_rel (rv : RV G ρ H d x) (h : tupD d = some ds) : ∃ a xs, x = .ref a ∧ SqT G.K H a xs ∧ RVs G ρ H ds xs := by
  cases rv with
  | tup ht hr => cases h; exact ⟨_, _, rfl, SqT.of ht, hr⟩
  | kt ht hr => cases h; exact ⟨_, _, rfl, sqT_written ht, hr⟩
  | _ => cases h
theorem listAt_rel (rl : Rl G ρ S H) (rv : RV G ρ H d x) (h : listAt S d = some ds) : ∃ a xs, x = .ref a ∧ SqL G.K H a xs ∧ RVs G ρ H ds xs := by
  cases rv with
  | lv n ht hr => cases h; exact ⟨_, _, rfl, SqL.of ht, hr⟩
  | fl ht hr => cases h; exact ⟨_, _, rfl, ht.sq, hr⟩
  | @ref i a hi =>
    unfold listAt at h
    cases q : S.get i with
    | none => simp only [q] at h; cases h
    | some o =>
      obtain ⟨u, hu, ro⟩ := rl.at hi q
      cases ro with
      | lst r => simp only [q] at h; cases h; exact ⟨a, _, rfl, SqL.of hu, r⟩
      | lck r =>
        cases r with
        | lst r => simp only [q] at h; cases h; exact ⟨a, _, rfl, .inl (.inr ⟨_, hu⟩), r⟩
        | _ => simp only [q] at h; cases h
      | _ => simp only [q] at h; cases h
  | _ => cases h
theorem RVs.atI {ds : List D} {xs : List V} {i : Int} {d : D} (r : RVs G ρ H ds xs) (h : L2.atI ds i = some d) : ∃ v, L2.atI xs i = some v ∧ RV G ρ H d v := by
  unfold L2.atI at h ⊢
  rw [← r.length]
  cases q : ixN ds.length i with
  | none => rw [q] at h; cases h
  | some j =>
    rw [q] at h
    exact RVs.get r h
end

def intOp (c : Int → Int → Bool) (g : Int → Int → D) : D → D → Store → Res D := fun x y S => match x, y with
  | .int i, .int j => if c i j then .ok (g i j) S else .bad
  | _, _ => .bad
def mulOk (i j : Int) : Bool := (decide (-(2 ^ 64) < i) && decide (i < 2 ^ 64)) || (decide (-(2 ^ 64) < j) && decide (j < 2 ^ 64)) || decide (i.natAbs.log2 + j.natAbs.log2 < 1000000)
def divOk (j : Int) : Bool := decide (0 < j) && decide (j.natAbs.log2 < 9000)
def powOk (i j : Int) : Bool := decide (0 ≤ j) && decide (j ≤ 1000000) && decide (i.natAbs < 2 ^ 64)
section
variable {G : Gx} {X : Cx} {W : WX}
theorem intOp_go {c : Int → Int → Bool} {g : Int → Int → D} {ρ : Wd} {S : Store} {H : Hp} {d1 d2 : D} {x y : V} {Q : VK} {E : XK} (r1 : RV G ρ H d1 x) (r2 : RV G ρ H d2 y) (p : Post G ρ H (intOp c g d1 d2 S) Q E) :
    ∃ i j, x = .int i ∧ y = .int j ∧ c i j = true ∧ Post G ρ H (.ok (g i j) S) Q E := by
  cases r1 with
  | int i =>
    cases r2 with
    | int j =>
      unfold intOp at p
      by_cases h : c i j = true
      · simp only [h, if_true] at p
        exact ⟨i, j, rfl, rfl, h, p⟩
      · simp only [h] at p
        exact False.elim p
    | _ => exact False.elim p
  | _ => exact False.elim p
theorem ops_int {F : Value → Value → Sem Value} {c : Int → Int → Bool} {C : Int → Int → Prop} {g : Int → Int → Int} (ho : OpR X F (rI C fun i j => .int (g i j))) (hc : ∀ i j, c i j = true → C i j) : OpS G X W F (intOp c fun i j => .int (g i j)) :=
  OpS.of ho fun ρ S H d1 d2 x y Q E rl r1 r2 p => by
    obtain ⟨i, j, h1, h2, h3, p⟩ := intOp_go r1 r2 p
    exact ⟨i, j, h1, h2, hc i j h3, post_ok p rl (.int _)⟩
theorem ops_cmp0 {F : Value → Value → Sem Value} {g : Int → Int → Bool} (ho : OpR X F (rI0 fun i j => .bl (g i j))) : OpS G X W F (intOp (fun _ _ => true) fun i j => .bl (g i j)) :=
  OpS.of ho fun ρ S H d1 d2 x y Q E rl r1 r2 p => by
    obtain ⟨i, j, h1, h2, h3, p⟩ := intOp_go r1 r2 p
    exact ⟨i, j, h1, h2, post_ok p rl (.bl _)⟩
end
def divI : D → D → Store → Res D := intOp (fun _ j => divOk j) fun i j => .int (i / j)
def modI : D → D → Store → Res D := intOp (fun _ j => decide (0 < j)) fun i j => .int (i % j)
def powI : D → D → Store → Res D := intOp powOk fun i j => .int (i ^ j.toNat)
def ltI : D → D → Store → Res D := intOp (fun _ _ => true) fun i j => .bl (decide (i < j))
def gtI : D → D → Store → Res D := intOp (fun _ _ => true) fun i j => .bl (decide (j < i))
def geI : D → D → Store → Res D := intOp (fun _ _ => true) fun i j => .bl (decide (j ≤ i))
def noOwn : D → D → Store → Res D := fun _ _ _ => .bad
/-- a + b -/
def addF (own : D → D → Store → Res D) : D → D → Store → Res D := fun x y S => match x, y with
  | .int i, .int j => .ok (.int (i + j)) S
  | .str a, .str b => if a.length + b.length ≤ lim then .ok (.str (a ++ b)) S else .bad
  | .tup a, .tup b => if a.length + b.length ≤ lim then .ok (.tup (a ++ b)) S else .bad
  | .lv a, .lv b => if a.length + b.length ≤ lim then .ok (.lv (a ++ b)) S else .bad
  | .ref a, _ => own (.ref a) y S
  | _, _ => .bad
def subF (own : D → D → Store → Res D) : D → D → Store → Res D := fun x y S => match x, y with
  | .int i, .int j => .ok (.int (i - j)) S
  | .ref a, _ => own (.ref a) y S
  | _, _ => .bad
/-- a * b -/
def mulF (own : D → D → Store → Res D) : D → D → Store → Res D := fun x y S => match x, y with
  | .int i, .int j => if mulOk i j then .ok (.int (i * j)) S else .bad
  | .lv a, .int k => if decide (0 ≤ k) && decide (k ≤ 1000) && decide (a.length ≤ 1000) then .ok (.lv (List.replicate k.toNat a).flatten) S else .bad
  | .ref a, _ => own (.ref a) y S
  | _, _ => .bad
section
variable {G : Gx} {X : Cx} {W : WX}
theorem noOwn_ok {F : Value → Value → Sem Value} : OpS G X W F noOwn := fun _ _ _ _ _ _ _ _ _ _ _ _ _ _ _ _ _ _ _ p => p.elim
theorem ops_mod : OpS G X W (binaryOp .Mod) modI := ops_int op_mod fun i j h => by simpa using h
theorem ops_div : OpS G X W (binaryOp .FloorDiv) divI := ops_int op_fdivW fun i j h => by
  unfold divOk at h
  simp only [Bool.and_eq_true, decide_eq_true_eq] at h
  exact h
theorem ops_pow : OpS G X W (binaryOp .Pow) powI := ops_int op_pow fun i j h => by
  unfold powOk at h
  simp only [Bool.and_eq_true, decide_eq_true_eq] at h
  exact ⟨h.1.1, h.1.2, h.2⟩
theorem ops_lt : OpS G X W (compareOp .Lt) ltI := ops_cmp0 op_lt
theorem ops_gt : OpS G X W (compareOp .Gt) gtI := ops_cmp0 op_gt
theorem ops_ge : OpS G X W (compareOp .GtE) geI := ops_cmp0 op_ge
theorem str_append (a b : List Nat) : (⟨a.toArray⟩ : Str) ++ ⟨b.toArray⟩ = ⟨(a ++ b).toArray⟩ := by
  show Str.mk (a.toArray ++ b.toArray) = _
  simp
theorem str_len (a : List Nat) : (⟨a.toArray⟩ : Str).length = a.length := by
  show a.toArray.size = _
  simp
theorem ops_add {own : D → D → Store → Res D} (cc : Cc G X W) (ho : OpS G X W (binaryOp .Add) own) : OpS G X W (binaryOp .Add) (addF own) := by
  intro pins s σ H x y v u Q ρ S d1 d2 I rx ry rl r1 r2 p
  cases r1 with
  | int i =>
    cases r2 with
    | int j => exact op_add pins s σ H _ _ v u Q I rx ry ⟨i, j, rfl, rfl, post_ok p rl (.int _)⟩
    | _ => exact p.elim
  | str a =>
    cases r2 with
    | str b =>
      unfold addF at p
      by_cases hl : a.length + b.length ≤ lim
      · simp only [hl, if_true] at p
        refine op_add_str pins s σ H _ _ v u Q I rx ry ⟨_, _, rfl, rfl, by rw [str_len, str_len]; exact lim_le hl, ?_⟩
        rw [str_append]
        exact post_ok p rl (.str _)
      · simp only [hl, if_false] at p
        exact p.elim
    | _ => exact p.elim
  | @tup as a xs ha hr =>
    cases r2 with
    | @tup bs b ys hb hs =>
      unfold addF at p
      by_cases hl : as.length + bs.length ≤ lim
      · simp only [hl, if_true] at p
        refine op_catA pins s σ H _ _ v u Q I rx ry ⟨a, b, xs, ys, rfl, rfl, SqT.of ha, SqT.of hb, by rw [← hr.length, ← hs.length]; exact lim_le hl, fun e => ?_, fun _ e => ?_, fun _ _ q hq => ?_⟩
        · subst e
          cases hr
          exact post_ok p rl (.tup hb hs)
        · subst e
          cases hs
          exact post_ok p rl (.tup ha (by rw [List.append_nil]; exact hr))
        · exact post_new p rl hq (.tup upd_same ((hr.append hs).mono (Le.new hq)))
      · simp only [hl, if_false] at p
        exact p.elim
    | _ => exact p.elim
  | @lv as a xs na ha hr =>
    cases r2 with
    | @lv bs b ys nb hb hs =>
      unfold addF at p
      by_cases hl : as.length + bs.length ≤ lim
      · simp only [hl, if_true] at p
        refine op_cat pins s σ H _ _ v u Q I rx ry ⟨a, b, xs, ys, rfl, rfl, ha, hb, by rw [← hr.length, ← hs.length]; exact lim_le hl, fun q hq => ?_⟩
        exact post_new p rl hq (.lv (rl.no hq) upd_same ((hr.append hs).mono (Le.new hq)))
      · simp only [hl, if_false] at p
        exact p.elim
    | _ => exact p.elim
  | ref h => exact ho pins s σ H _ _ v u Q ρ S _ d2 I rx ry rl (.ref h) r2 p
  | _ => exact p.elim
theorem ops_sub {own : D → D → Store → Res D} (ho : OpS G X W (binaryOp .Sub) own) : OpS G X W (binaryOp .Sub) (subF own) := by
  intro pins s σ H x y v u Q ρ S d1 d2 I rx ry rl r1 r2 p
  cases r1 with
  | int i =>
    cases r2 with
    | int j => exact op_sub pins s σ H _ _ v u Q I rx ry ⟨i, j, rfl, rfl, post_ok p rl (.int _)⟩
    | _ => exact p.elim
  | ref h => exact ho pins s σ H _ _ v u Q ρ S _ d2 I rx ry rl (.ref h) r2 p
  | _ => exact p.elim
theorem ops_mul {own : D → D → Store → Res D} (ho : OpS G X W (binaryOp .Mult) own) : OpS G X W (binaryOp .Mult) (mulF own) := by
  intro pins s σ H x y v u Q ρ S d1 d2 I rx ry rl r1 r2 p
  cases r1 with
  | int i =>
    cases r2 with
    | int j =>
      unfold mulF at p
      by_cases h : mulOk i j = true
      · simp only [h, if_true] at p
        have h' := h
        unfold mulOk at h'
        simp only [Bool.or_eq_true, Bool.and_eq_true, decide_eq_true_eq] at h'
        rcases h' with h' | h'
        · exact op_mul pins s σ H _ _ v u Q I rx ry ⟨i, j, rfl, rfl, h', post_ok p rl (.int _)⟩
        · exact op_mulW pins s σ H _ _ v u Q I rx ry ⟨i, j, rfl, rfl, h', post_ok p rl (.int _)⟩
      · simp only [h] at p
        exact p.elim
    | _ => exact p.elim
  | @lv as a xs na ha hr =>
    cases r2 with
    | int k =>
      unfold mulF at p
      by_cases h : (decide (0 ≤ k) && decide (k ≤ 1000) && decide (as.length ≤ 1000)) = true
      · simp only [h, if_true] at p
        simp only [Bool.and_eq_true, decide_eq_true_eq] at h
        have hl := hr.length
        have hz : xs.length * k.toNat ≤ sizeLine := by
          rw [sizeLine_eq]
          have : xs.length * k.toNat ≤ 1000 * 1000 := Nat.mul_le_mul (by omega) (by omega)
          omega
        refine op_rep pins s σ H _ _ v u Q I rx ry ⟨a, k, xs, rfl, rfl, ha, by omega, by omega, hz, fun q hq => ?_⟩
        refine post_new p rl hq (.lv (rl.no hq) upd_same ?_)
        have rep : ∀ n, RVs G ρ H (List.replicate n as).flatten (List.replicate n xs).flatten := fun n => by
          induction n with
          | zero => exact .nil
          | succ n ih => rw [List.replicate_succ, List.replicate_succ]; exact hr.append ih
        exact (rep k.toNat).mono (Le.new hq)
      · simp only [h] at p
        exact p.elim
    | _ => exact p.elim
  | ref h => exact ho pins s σ H _ _ v u Q ρ S _ d2 I rx ry rl (.ref h) r2 p
  | _ => exact p.elim
end

def mapO {α β : Type} (f : α → Option β) : List α → Option (List β)
  | [] => some []
  | a :: as => match f a, mapO f as with
    | some b, some bs => some (b :: bs)
    | _, _ => none
def dat : Nat → Store → D → Option PyData
  | _, _, .non => some .none
  | _, _, .bl b => some (.bool b)
  | _, _, .int i => some (.int i)
  | _, _, .str x => some (.str ⟨x.toArray⟩)
  | n + 1, S, .tup ds => (mapO (dat n S) ds).map .tuple
  | n + 1, S, .kt ds => (mapO (dat n S) ds).map .tuple
  | n + 1, S, .lv ds => (mapO (dat n S) ds).map .list
  | n + 1, S, .ref a => (match listAt S (.ref a) with | some ds => (mapO (dat n S) ds).map .list | none => none)
  | _, _, _ => none
section
variable {G : Gx} {X : Cx} {W : WX} {ρ : Wd} {S : Store} {H : Hp}
theorem mapO_rel {f : D → Option PyData} (h : ∀ d x e, RV G ρ H d x → f d = some e → Dp G.K H x e) : ∀ {ds : List D} {xs : List V} {es : List PyData}, RVs G ρ H ds xs → mapO f ds = some es → DpAll G.K H xs es
  | _, _, _, .nil, e => by cases e; exact .nil
  | d :: ds, x :: xs, es, .cons r rs, e => by
    unfold mapO at e
    cases q1 : f d with
    | none => simp only [q1] at e; cases e
    | some b =>
      cases q2 : mapO f ds with
      | none => simp only [q1, q2] at e; cases e
      | some bs =>
        simp only [q1, q2] at e
        cases e
        exact .cons (h d x b r q1) (mapO_rel h rs q2)
theorem dat_rel (rl : Rl G ρ S H) : ∀ (n : Nat) (d : D) (x : V) (e : PyData), RV G ρ H d x → dat n S d = some e → Dp G.K H x e := by
  intro n
  induction n with
  | zero =>
    intro d x e r h
    cases r with
    | non => cases h; exact .non
    | bl b => cases h; exact .bl b
    | int i => cases h; exact .int i
    | str x => cases h; exact .str _
    | _ => cases h
  | succ n ih =>
    intro d x e r h
    have seqT : ∀ {ds : List D} {a : Addr} {xs : List V}, SqT G.K H a xs → RVs G ρ H ds xs → (mapO (dat n S) ds).map PyData.tuple = some e → Dp G.K H (.ref a) e := fun {ds a xs} ht hr h => by
      cases q : mapO (dat n S) ds with
      | none => rw [q] at h; cases h
      | some es => rw [q] at h; cases h; exact .tup ht (mapO_rel ih hr q)
    have seqL : ∀ {ds : List D} {a : Addr} {xs : List V}, SqL G.K H a xs → RVs G ρ H ds xs → (mapO (dat n S) ds).map PyData.list = some e → Dp G.K H (.ref a) e := fun {ds a xs} ht hr h => by
      cases q : mapO (dat n S) ds with
      | none => rw [q] at h; cases h
      | some es => rw [q] at h; cases h; exact .lst ht (mapO_rel ih hr q)
    cases r with
    | non => cases h; exact .non
    | bl b => cases h; exact .bl b
    | int i => cases h; exact .int i
    | str x => cases h; exact .str _
    | ty n => cases h
    | tup ht hr => exact seqT (SqT.of ht) hr h
    | kt ht hr => exact seqT (sqT_written ht) hr h
    | lv hn ht hr => exact seqL (SqL.of ht) hr h
    | @ref i a hi =>
      unfold dat at h
      cases q : listAt S (.ref i) with
      | none => simp only [q] at h; cases h
      | some ds =>
        simp only [q] at h
        obtain ⟨b, xs, e1, hq, hr⟩ := listAt_rel rl (.ref hi) q
        cases e1
        exact seqL hq hr h
    | _ => cases h
end
/-- a == b, a != b of data; own objects by own -/
def eqF (own : D → D → Store → Res D) : D → D → Store → Res D := fun x y S => match dat 64 S x, dat 64 S y with
  | some a, some b => if SeqAt.shaped a && SeqAt.shaped b then .ok (.bl (PyData.eqv a b)) S else .bad
  | _, _ => own x y S
def neF (own : D → D → Store → Res D) : D → D → Store → Res D := fun x y S => match dat 64 S x, dat 64 S y with
  | some a, some b => if SeqAt.shaped a && SeqAt.shaped b then .ok (.bl (!PyData.eqv a b)) S else .bad
  | _, _ => own x y S
section
variable {G : Gx} {X : Cx} {W : WX}
theorem ops_eq {own : D → D → Store → Res D} (cc : Cc G X W) (hu : X.A.units + 64 < cLine) (ho : OpS G X W (compareOp .Eq) own) : OpS G X W (compareOp .Eq) (eqF own) := by
  intro pins s σ H x y v u Q ρ S d1 d2 I rx ry rl r1 r2 p
  unfold eqF at p
  cases q1 : dat 64 S d1 with
  | none => simp only [q1] at p; exact ho pins s σ H x y v u Q ρ S d1 d2 I rx ry rl r1 r2 p
  | some a =>
    cases q2 : dat 64 S d2 with
    | none => simp only [q1, q2] at p; exact ho pins s σ H x y v u Q ρ S d1 d2 I rx ry rl r1 r2 p
    | some b =>
      simp only [q1, q2] at p
      by_cases h : (SeqAt.shaped a && SeqAt.shaped b) = true
      · simp only [h, if_true] at p
        rw [Bool.and_eq_true] at h
        refine op_eqD hu pins s σ H x y v u Q I rx ry ⟨a, b, ?_, ?_, h.1, h.2, post_ok p rl (.bl _)⟩
        · rw [cc.k]; exact dat_rel rl 64 d1 x a r1 q1
        · rw [cc.k]; exact dat_rel rl 64 d2 y b r2 q2
      · simp only [h] at p
        exact p.elim
theorem ops_ne {own : D → D → Store → Res D} (cc : Cc G X W) (hu : X.A.units + 64 < cLine) (ho : OpS G X W (compareOp .NotEq) own) : OpS G X W (compareOp .NotEq) (neF own) := by
  intro pins s σ H x y v u Q ρ S d1 d2 I rx ry rl r1 r2 p
  unfold neF at p
  cases q1 : dat 64 S d1 with
  | none => simp only [q1] at p; exact ho pins s σ H x y v u Q ρ S d1 d2 I rx ry rl r1 r2 p
  | some a =>
    cases q2 : dat 64 S d2 with
    | none => simp only [q1, q2] at p; exact ho pins s σ H x y v u Q ρ S d1 d2 I rx ry rl r1 r2 p
    | some b =>
      simp only [q1, q2] at p
      by_cases h : (SeqAt.shaped a && SeqAt.shaped b) = true
      · simp only [h, if_true] at p
        rw [Bool.and_eq_true] at h
        refine op_neD hu pins s σ H x y v u Q I rx ry ⟨a, b, ?_, ?_, h.1, h.2, post_ok p rl (.bl _)⟩
        · rw [cc.k]; exact dat_rel rl 64 d1 x a r1 q1
        · rw [cc.k]; exact dat_rel rl 64 d2 y b r2 q2
      · simp only [h] at p
        exact p.elim
end
end L2.Mi

set_option Elab.async false
set_option linter.all false
set_option maxRecDepth 100000
set_option maxHeartbeats 4000000
namespace L2.Mi
open PySem PySem.Spec PyProof.Rows

def IxS (G : Gx) (X : Cx) (W : WX) (f : D → D → Store → Res D) : Prop :=
  ∀ (value slice : Expr) (pins : List (Addr × Obj)) (s : Shared) (σ : St) (H : Hp) (x y : V) (v u : Value) (Q : VK) (ρ : Wd) (S : Store) (d1 d2 : D), Inv X pins σ H s → RelV x v → RelV y u → Rl G ρ S H → RV G ρ H d1 x → RV G ρ H d2 y →
    Post G ρ H (f d1 d2 S) Q (EW W σ) → subscripted slice false v u = operate [v, u] (getItem v u) → wpAny (model X.prog X.w) X.A (subscriptTail value slice v u) (EP X pins σ Q) X.xe s
/-- an item of a tuple, a list, a text -/
def itemF : D → D → Store → Res D := fun x y S => match y with
  | .int i => (match tupD x with
    | some ds => (match L2.atI ds i with | some d => .ok d S | none => .bad)
    | none => (match listAt S x with
      | some ds => (match L2.atI ds i with | some d => .ok d S | none => .bad)
      | none => (match x with
        | .str l => if l.length ≤ lim then (match L2.atI l i with | some c => .ok (.str [c]) S | none => .bad) else .bad
        | _ => .bad)))
  | _ => .bad
section
variable {G : Gx} {X : Cx} {W : WX} {a b e : Expr} {ma mb m : ME} {pos : Pos}
theorem IxS.of {f : D → D → Store → Res D} {r : R2} (ho : IxR X r) (h : ∀ ρ S H d1 d2 x y Q E, Rl G ρ S H → RV G ρ H d1 x → RV G ρ H d2 y → Post G ρ H (f d1 d2 S) Q E → r x y H Q) : IxS G X W f :=
  fun value slice pins s σ H x y v u Q ρ S d1 d2 I rx ry rl r1 r2 p hs => ho value slice pins s σ H x y v u Q I rx ry (h ρ S H d1 d2 x y Q _ rl r1 r2 p) hs
theorem se_ix {f : D → D → Store → Res D} (hr : IxS G X W f) (ha : SE G X W a ma) (hb : SE G X W b mb) (hs : PlainIx b := by exact fun _ _ => rfl) : SE G X W (.Subscript a b pos) (eBin f ma mb) :=
  ⟨fun pins s σ H Q I ⟨ρ, σs, S, rl, re, p⟩ => Subscript_ (ha.go I rl re p fun v s1 x H1 ρ1 S1 d I1 rx l1 rl1 re1 rv1 p1 => hb.go I1 rl1 re1 p1 fun u s2 y H2 ρ2 S2 e I2 ry l2 rl2 re2 rv2 p2 =>
    hr a b pins s2 σ H2 x y v u Q ρ2 S2 d e I2 rx ry rl2 (rv1.mono l2) rv2 p2 (hs _ _))⟩
theorem ixs_item (cc : Cc G X W) : IxS G X W itemF := by
  intro value slice pins s σ H x y v u Q ρ S d1 d2 I rx ry rl r1 r2 p hs
  cases r2 with
  | int i =>
    unfold itemF at p
    cases q1 : tupD d1 with
    | some ds =>
      obtain ⟨a, xs, rfl, ht, hr⟩ := tupD_rel r1 q1
      cases q2 : L2.atI ds i with
      | none => simp only [q1, q2] at p; exact p.elim
      | some d =>
        simp only [q1, q2] at p
        obtain ⟨z, h1, h2⟩ := hr.atI q2
        exact ix_tup value slice pins s σ H _ _ v u Q I rx ry ⟨a, xs, i, z, rfl, rfl, by rw [cc.k]; exact ht, h1, post_ok p rl h2⟩ hs
    | none =>
      cases q3 : listAt S d1 with
      | some ds =>
        obtain ⟨a, xs, rfl, ht, hr⟩ := listAt_rel rl r1 q3
        cases q2 : L2.atI ds i with
        | none => simp only [q1, q2, q3] at p; exact p.elim
        | some d =>
          simp only [q1, q2, q3] at p
          obtain ⟨z, h1, h2⟩ := hr.atI q2
          exact ix_list value slice pins s σ H _ _ v u Q I rx ry ⟨a, xs, i, z, rfl, rfl, by rw [cc.k]; exact ht, h1, post_ok p rl h2⟩ hs
      | none =>
        cases r1 with
        | str l =>
          simp only [q1, q3] at p
          by_cases hl : l.length ≤ lim
          · simp only [hl, if_true] at p
            cases q2 : L2.atI l i with
            | none => simp only [q2] at p; exact p.elim
            | some c =>
              simp only [q2] at p
              refine ix_str value slice pins s σ H _ _ v u Q I rx ry ⟨⟨l.toArray⟩, i, c, rfl, rfl, by rw [str_len]; exact lim_le hl, ?_, post_ok p rl (.str [c])⟩ hs
              simpa using q2
          · simp only [hl, if_false] at p
            exact p.elim
        | _ => simp only [q1, q3] at p; exact p.elim
  | _ => exact p.elim
end

def cutD {α : Type} (xs : List α) (lo hi : Option Int) : List α := (xs.drop (HT.sIx xs.length 0 lo)).take (HT.sIx xs.length xs.length hi - HT.sIx xs.length 0 lo)
end L2.Mi

set_option Elab.async false
set_option linter.all false
set_option maxRecDepth 100000
set_option maxHeartbeats 4000000
namespace L2.Mi
open PySem PySem.Spec PyProof.Rows

def lenF (ds : List D) (S : Store) : Res D := match ds with
  | [.str l] => if l.length ≤ lim then .ok (.int l.length) S else .bad
  | [.tup xs] => .ok (.int xs.length) S
  | [.kt xs] => .ok (.int xs.length) S
  | [d] => (match listAt S d with | some xs => .ok (.int xs.length) S | none => .bad)
  | _ => .bad
def absF (ds : List D) (S : Store) : Res D := match ds with
  | [.int i] => .ok (.int (if i < 0 then -i else i)) S
  | _ => .bad
def max2F (ds : List D) (S : Store) : Res D := match ds with
  | [.int i, .int j] => .ok (.int (if j > i then j else i)) S
  | _ => .bad
def min2F (ds : List D) (S : Store) : Res D := match ds with
  | [.int i, .int j] => .ok (.int (if j < i then j else i)) S
  | _ => .bad
def intF (ds : List D) (S : Store) : Res D := match ds with
  | [.int i] => .ok (.int i) S
  | [.bl k] => .ok (.int (if k then 1 else 0)) S
  | _ => .bad
/-- a list of the items of a list or a tuple: one that is changed later, one that is not -/
def seqAt (S : Store) (d : D) : Option (List D) := match tupD d with | some ds => some ds | none => listAt S d
section
variable {G : Gx} {X : Cx} {W : WX}
theorem rvs1 {ρ : Wd} {H : Hp} {d : D} {xs : List V} (r : RVs G ρ H [d] xs) : ∃ x, xs = [x] ∧ RV G ρ H d x := by
  cases r with
  | cons h t => cases t; exact ⟨_, rfl, h⟩
theorem rvs2 {ρ : Wd} {H : Hp} {d e : D} {xs : List V} (r : RVs G ρ H [d, e] xs) : ∃ x y, xs = [x, y] ∧ RV G ρ H d x ∧ RV G ρ H e y := by
  cases r with
  | cons h t =>
    cases t with
    | cons h' t' => cases t'; exact ⟨_, _, rfl, h, h'⟩
theorem fns_len (cc : Cc G X W) : FnS G X W (.builtin "len") lenF := FnS.of call_len fun ρ S H ds xs Q E rl r p => by
  have seq : ∀ {d : D} {x : V} {ys : List D}, RV G ρ H d x → listAt S d = some ys → Post G ρ H (.ok (.int ys.length) S) Q E → ∃ x' n, [x] = [x'] ∧ LenV X.K x' H n ∧ Q (.int n) H := fun {d x ys} h q p => by
    obtain ⟨a, zs, rfl, hq, hr⟩ := listAt_rel rl h q
    refine ⟨_, zs.length, rfl, .inl ⟨zs, by rw [cc.k]; exact hq, rfl⟩, ?_⟩
    rw [← hr.length]
    exact post_ok p rl (.int _)
  match ds, r, p with
  | [], _, p => exact p.elim
  | _ :: _ :: _, _, p => exact (show False by unfold lenF at p; split at p <;> first | exact p | simp_all).elim
  | [d], r, p =>
    obtain ⟨x, rfl, h⟩ := rvs1 r
    cases h with
    | str l =>
      have p' : Post G ρ H (if l.length ≤ lim then .ok (.int l.length) S else .bad) Q E := p
      by_cases hl : l.length ≤ lim
      · rw [if_pos hl] at p'
        refine ⟨_, l.length, rfl, ⟨by rw [str_len]; exact lim_le hl, by rw [str_len]⟩, post_ok p' rl (.int _)⟩
      · rw [if_neg hl] at p'
        exact p'.elim
    | @tup ds a zs ht hr =>
      refine ⟨_, zs.length, rfl, .inr ⟨zs, SqT.of ht, rfl⟩, ?_⟩
      rw [← hr.length]
      exact post_ok (S := S) p rl (.int _)
    | @kt ds a zs ht hr =>
      refine ⟨_, zs.length, rfl, .inr ⟨zs, by rw [cc.k]; exact sqT_written ht, rfl⟩, ?_⟩
      rw [← hr.length]
      exact post_ok (S := S) p rl (.int _)
    | lv n ht hr => exact seq (.lv n ht hr) rfl p
    | fl ht hr => exact seq (.fl ht hr) rfl p
    | @ref i a hi =>
      have p' : Post G ρ H (match listAt S (.ref i) with | some ys => .ok (.int ys.length) S | none => .bad) Q E := p
      cases q : listAt S (.ref i) with
      | none => rw [q] at p'; exact p'.elim
      | some ys => rw [q] at p'; exact seq (.ref hi) q p'
    | _ => exact False.elim p
theorem fns_abs : FnS G X W (.builtin "abs") absF := FnS.of call_abs fun ρ S H ds xs Q E rl r p => by
  unfold absF at p
  split at p
  · obtain ⟨x, rfl, h⟩ := rvs1 r
    cases h
    exact ⟨_, rfl, post_ok p rl (.int _)⟩
  · exact p.elim
theorem fns_max2 (cc : Cc G X W) : FnS G X W (.builtin "max") max2F := FnS.of (call_max2 cc.calm) fun ρ S H ds xs Q E rl r p => by
  unfold max2F at p
  split at p
  · obtain ⟨x, y, rfl, h, h'⟩ := rvs2 r
    cases h
    cases h'
    exact ⟨_, _, rfl, post_ok p rl (.int _)⟩
  · exact p.elim
theorem fns_min2 (cc : Cc G X W) : FnS G X W (.builtin "min") min2F := FnS.of (call_min2 cc.calm) fun ρ S H ds xs Q E rl r p => by
  unfold min2F at p
  split at p
  · obtain ⟨x, y, rfl, h, h'⟩ := rvs2 r
    cases h
    cases h'
    exact ⟨_, _, rfl, post_ok p rl (.int _)⟩
  · exact p.elim
theorem fns_int : FnS G X W (.type "int") intF := FnS.of call_int1 fun ρ S H ds xs Q E rl r p => by
  unfold intF at p
  split at p
  · obtain ⟨x, rfl, h⟩ := rvs1 r
    cases h
    exact .inl ⟨_, rfl, post_ok p rl (.int _)⟩
  · obtain ⟨x, rfl, h⟩ := rvs1 r
    cases h
    exact .inr ⟨_, rfl, post_ok p rl (.int _)⟩
  · exact p.elim
theorem seqAt_rel {ρ : Wd} {S : Store} {H : Hp} {d : D} {x : V} {ds : List D} (rl : Rl G ρ S H) (rv : RV G ρ H d x) (h : seqAt S d = some ds) : ∃ a xs, x = .ref a ∧ (SqL G.K H a xs ∨ SqT G.K H a xs) ∧ RVs G ρ H ds xs := by
  unfold seqAt at h
  cases q : tupD d with
  | some es =>
    rw [q] at h
    cases h
    obtain ⟨a, xs, e, ht, hr⟩ := tupD_rel rv q
    exact ⟨a, xs, e, .inr ht, hr⟩
  | none =>
    rw [q] at h
    obtain ⟨a, xs, e, ht, hr⟩ := listAt_rel rl rv h
    exact ⟨a, xs, e, .inl ht, hr⟩
variable {e tg : Expr} {m : ME} {pos p : Pos}
theorem si_of {wi : TI} {mi : MI} {iter : Expr} (h : PI X tg iter wi) (i : ∀ σ H R ρ σs S, Rl G ρ S H → RE G ρ H σs σ → PostI G ρ H (mi σs S) R (EW W σ) → wi σ H R) : SI G X W tg iter mi :=
  PI.weak h fun σ H R ⟨ρ, σs, S, rl, re, p⟩ => i σ H R ρ σs S rl re p
theorem jr_list {ρ0 : Wd} {H0 : Hp} {d : D} {a : Addr} (rv : RV G ρ0 H0 d (.ref a)) : JR G ρ0 H0 (fun k S' => (listAt S' d).map fun ds => ds[k]?) (Itl G.K a) := by
  intro ρ S H l kz rl i
  refine ⟨fun e h => ?_, fun h => ?_⟩
  · cases q : listAt S d with
    | none => simp only [q] at h; cases h
    | some ds =>
      simp only [q, Option.map_some, Option.some.injEq] at h
      obtain ⟨b, xs, e1, hq, hr⟩ := listAt_rel rl (rv.move l) q
      cases e1
      obtain ⟨x, h1, h2⟩ := hr.get h
      refine ⟨⟨xs, x, hq, h1⟩, fun y H' hy => ?_⟩
      obtain ⟨e2, hy⟩ := hy
      subst e2
      have := hy xs hq
      rw [h1] at this
      cases this
      exact ⟨Le.refl, rl, h2⟩
  · cases q : listAt S d with
    | none => simp only [q] at h; cases h
    | some ds =>
      simp only [q, Option.map_some, Option.some.injEq] at h
      obtain ⟨b, xs, e1, hq, hr⟩ := listAt_rel rl (rv.move l) q
      cases e1
      exact ⟨xs, hq, by rw [← hr.length]; exact List.getElem?_eq_none_iff.mp h⟩
theorem si_list (cc : Cc G X W) (h : SE G X W e m) : SI G X W tg e (iList m) := by
  refine si_of (pi_list h) fun σ H R ρ σs S rl re p => ?_
  refine ⟨ρ, σs, S, rl, re, PostR.bind (R := RV G) p fun ρ1 H1 S1 d x l1 rl1 rv1 p1 => ?_⟩
  cases q : listAt S1 d with
  | none => simp only [q] at p1; exact p1.elim
  | some ds =>
    simp only [q] at p1
    obtain ⟨a, xs, rfl, hq, hr⟩ := listAt_rel rl1 rv1 q
    refine ⟨a, rfl, ⟨xs, by rw [cc.k]; exact hq⟩, p1 ρ1 H1 _ Le.refl rl1 ?_⟩
    rw [cc.k]
    exact jr_list rv1
theorem jr_tup {ρ0 : Wd} {H0 : Hp} {ds : List D} {d : D} {a : Addr} (rv : RV G ρ0 H0 d (.ref a)) (hd : tupD d = some ds) : JR G ρ0 H0 (fun k _ => some ds[k]?) (Itt G.K a) := by
  intro ρ S H l kz rl i
  obtain ⟨b, xs, e1, hq, hr⟩ := tupD_rel (rv.move l) hd
  cases e1
  refine ⟨fun e h => ?_, fun h => ?_⟩
  · obtain ⟨x, h1, h2⟩ := hr.get (Option.some.inj h)
    refine ⟨⟨xs, x, hq, h1⟩, fun y H' hy => ?_⟩
    obtain ⟨e2, hy⟩ := hy
    subst e2
    have := hy xs hq
    rw [h1] at this
    cases this
    exact ⟨Le.refl, rl, h2⟩
  · exact ⟨xs, hq, by rw [← hr.length]; exact List.getElem?_eq_none_iff.mp (Option.some.inj h)⟩
theorem si_tup (cc : Cc G X W) (h : SE G X W e m) : SI G X W tg e (iTup m) := by
  refine si_of (pi_tup h) fun σ H R ρ σs S rl re p => ?_
  refine ⟨ρ, σs, S, rl, re, PostR.bind (R := RV G) p fun ρ1 H1 S1 d x l1 rl1 rv1 p1 => ?_⟩
  have go : ∀ {ds : List D}, tupD d = some ds → PostI G ρ1 H1 (.ok (fun k _ => some ds[k]?) S1) R (EW W σ) → ∃ a, x = .ref a ∧ (∃ xs, SqT X.K H1 a xs) ∧ R (Itt X.K a) H1 := fun {ds} hd p => by
    obtain ⟨a, xs, rfl, hq, hr⟩ := tupD_rel rv1 hd
    refine ⟨a, rfl, ⟨xs, by rw [cc.k]; exact hq⟩, p ρ1 H1 _ Le.refl rl1 ?_⟩
    rw [cc.k]
    exact jr_tup rv1 hd
  cases d with
  | tup ds => exact go rfl p1
  | kt ds => exact go rfl p1
  | _ => exact False.elim p1
theorem jr_range {ρ0 : Wd} {H0 : Hp} {lo : Int} {n : Nat} : JR G ρ0 H0 (fun k _ => some (if k < n then some (.int (lo + (k : Int))) else none)) (Itr lo n) := by
  intro ρ S H l kz rl i
  by_cases hi : i < n
  · refine ⟨fun e h => ?_, fun h => ?_⟩
    · simp only [hi, if_true, Option.some.injEq] at h
      subst h
      refine ⟨hi, fun y H' hy => ?_⟩
      obtain ⟨e2, hy⟩ := hy
      subst e2 hy
      exact ⟨Le.refl, rl, .int _⟩
    · simp only [hi, if_true] at h
      cases h
  · refine ⟨fun e h => ?_, fun h => ?_⟩
    · simp only [hi, if_false] at h
      cases h
    · exact Nat.le_of_not_lt hi
theorem i62_ok {j : Int} (h : i62 j = true) : -(2 ^ 62) ≤ j ∧ j < 2 ^ 62 := by
  unfold i62 at h
  simpa using h
theorem si_range1 (h : SA G X W [e] (aList [m])) (hg : Gl X "range") (hm : X.mg "range" = none) (hs : starEach [e] X.env = [(false, eval e X.env)] := by rfl) : SI G X W tg (.Call (.Name "range" p) [e] [] pos) (iRange1 m) := by
  refine si_of (pi_range1 hg hm h hs) fun σ H R ρ σs S rl re p => ?_
  refine ⟨ρ, σs, S, rl, re, ?_⟩
  show PostA G ρ H ((m σs S).bind fun x S1 => (Res.ok [] S1).bind fun xs S2 => .ok (x :: xs) S2) _ _
  have p' : PostI G ρ H ((m σs S).bind fun d S1 => match d with
    | .int j => if i62 j then .ok (fun k _ => some (if k < j.toNat then some (.int (0 + (k : Int))) else none)) S1 else .bad
    | _ => .bad) R (EW W σ) := p
  cases q : m σs S with
  | ok d S1 =>
    rw [q] at p'
    intro ρ1 H1 vs l1 rl1 rv1
    obtain ⟨x, rfl, h1⟩ := rvs1 rv1
    cases h1 with
    | int j =>
      have p2 : PostI G ρ H (if i62 j then .ok (fun k _ => some (if k < j.toNat then some (.int (0 + (k : Int))) else none)) S1 else .bad) R (EW W σ) := p'
      by_cases hj : i62 j = true
      · rw [if_pos hj] at p2
        exact ⟨j, rfl, (i62_ok hj).1, (i62_ok hj).2, p2 ρ1 H1 _ l1 rl1 jr_range⟩
      · rw [if_neg hj] at p2
        exact p2.elim
    | _ => exact False.elim p'
  | exc x S1 => rw [q] at p'; exact p'
  | bad => rw [q] at p'; exact p'
end
end L2.Mi

set_option Elab.async false
set_option linter.all false
set_option maxRecDepth 100000
set_option maxHeartbeats 4000000
namespace L2.Mi
open PySem PySem.Spec PyProof.Rows

abbrev FN := List D → Store → Res D
def spF (G : Gx) (m : FN) (n : Nat) : Sp := fun vs H Q E => ∃ ρ S ds, vs.length = n ∧ Rl G ρ S H ∧ RVs G ρ H ds vs ∧ Post G ρ H (m ds S) Q E
/-- a def's run by its body's: n slots -/
def bodyRun (n : Nat) (ms : MS) : FN := fun ds S => match ms (ds.map some ++ List.replicate (n - ds.length) none) S with
  | .rt d S1 => .ok d S1
  | .nx _ S1 => .ok .non S1
  | .exc x _ S1 => .exc x S1
  | _ => .bad
abbrev WF (E : XK) : WX := fun c d _ H' => E c d H'
section
variable {G : Gx} {P : Program} {w : World} {mg : Str → Option Value} {base : Heap} {N ps : List Str} {x qual : Str} {params : Arguments} {body : List Stmt} {scope : Scope} {dvs : List V} {kws : List (Str × V)} {f : Addr} {fd : FuncData} {k : Nat} {ms : MS}
theorem re_start {ρ : Wd} {H : Hp} : ∀ {ds : List D} {vs : List V}, RVs G ρ H ds vs → RE G ρ H (ds.map some ++ List.replicate (N.length - ds.length) none) (start N vs) := by
  intro ds vs r
  have hl := r.length
  refine ⟨by unfold start; simp [hl], fun i d h => ?_⟩
  by_cases hi : i < ds.length
  · rw [List.getElem?_append_left (by simpa using hi), List.getElem?_map] at h
    cases q : ds[i]? with
    | none => rw [q] at h; cases h
    | some e =>
      rw [q] at h
      cases h
      obtain ⟨v, h1, h2⟩ := r.get q
      refine ⟨v, ?_, h2⟩
      unfold start
      rw [List.getElem?_append_left (by simpa [← hl] using hi), List.getElem?_map, h1]
      rfl
  · rw [List.getElem?_append_right (by simpa using hi)] at h
    obtain ⟨_, e⟩ := List.getElem?_eq_some_iff.mp h
    simp at e
theorem fnd_ok (F : FunD G.K x qual params body scope dvs kws f fd) (S : FnScope N ps scope)
    (hb : ∀ (cdv : Value) (A : Around) (outer : List Env) (s : Shared) (H : Hp) (E : XK), Room k (A.deeper (envOfC qual scope s.heap.objs.size f cdv)) →
      Cc G (cxOf (L2.CX P w) P w G.K mg base N qual scope f cdv A outer s H E) (WF E) → SSs G (cxOf (L2.CX P w) P w G.K mg base N qual scope f cdv A outer s H E) (WF E) body ms) :
    FnOk P w G.K mg base (L2.CX P w) (k + 1) f fd ps (spF G (bodyRun N.length ms) ps.length) := by
  refine F.ok S (fun vs H Q E h => ?_) (fun cdv A outer s H vs Q E hr h => ?_)
  · obtain ⟨_, _, _, h, _⟩ := h
    exact h
  · obtain ⟨ρ, St, ds, hn, rl, rv, p⟩ := h
    have cc : Cc G (cxOf (L2.CX P w) P w G.K mg base N qual scope f cdv A outer s H E) (WF E) := ⟨rfl, takes_of rfl rfl rfl rfl, passes_of rfl, rfl, S.nd⟩
    refine ⟨_, hb cdv A outer s H E hr cc, ρ, _, St, rl, re_start rv, ?_⟩
    unfold bodyRun at p
    cases q : ms (ds.map some ++ List.replicate (N.length - ds.length) none) St with
    | rt d S1 => rw [q] at p; exact p
    | nx σ1 S1 => rw [q] at p; exact fun ρ1 H1 σ' l1 rl1 re1 => p ρ1 H1 .non l1 rl1 .non
    | exc x σ1 S1 => rw [q] at p; exact fun ρ1 H1 σ' c dd l1 rl1 re1 rx => p ρ1 H1 c dd l1 rl1 rx
    | bk σ1 S1 => rw [q] at p; exact p.elim
    | ct σ1 S1 => rw [q] at p; exact p.elim
    | bad => rw [q] at p; exact p.elim
end
/-- an object of the class c is made by its __init__ -/
def makeW (c : Nat) (m : FN) : FN := fun xs S => (m (.ref S.size :: xs) (S.push (.ins c []))).bind fun r S1 => match r with | .non => .ok (.ref S.size) S1 | _ => .bad
/-- what a callable promises: any arguments, by its run -/
def spG (G : Gx) (m : FN) : Sp := fun vs H Q E => ∃ ρ S ds, Rl G ρ S H ∧ RVs G ρ H ds vs ∧ Post G ρ H (m ds S) Q E
abbrev Cal (G : Gx) (P : Program) (w : World) (mg : Str → Option Value) (base : Heap) (k : Nat) (f : Addr) (m : FN) : Prop := FnR P w G.K mg base (L2.CX P w) k f (spG G m)
section
variable {G : Gx} {X : Cx} {W : WX} {k : Nat} {f C : Addr} {m : FN} {n : Nat} {dd : List D}
theorem run_fnRS {pins : List (Addr × Obj)} {σ : St} {H : Hp} {s : Shared} {Q : VK} {us : List Value} {vs : List V} {CX : CXT} {sp : Sp} {E : XK} (F : FnR X.prog X.w X.K X.mg X.base CX k f sp) (hr : Room k X.A) (hx : PassesAt CX X σ E)
    (I : Inv X pins σ H s) (r : Vals vs us) (h : sp vs H Q E) : wpAny (model X.prog X.w) X.A (call (.ref f) us) (EP X pins σ Q) X.xe s := by
  refine wpAny_call (codeAny_mono (F X.A X.stack s H us vs Q E hr I.env0 r h) fun r s' hq => ?_)
  cases r with
  | error e => exact hx pins H s e s' I hq
  | ok fl =>
    cases fl with
    | ret u => exact I.after hq
    | next => exact False.elim hq
    | brk => exact False.elim hq
    | cont => exact False.elim hq
theorem fns_cal (cc : Cc G X W) (F : Cal G X.prog X.w X.mg X.base k f m) (hr : Room k X.A) : FnS G X W (.ref f) m := by
  intro pins s σ H xs us Q ρ S es I r rl rv p
  have F' : FnR X.prog X.w X.K X.mg X.base (L2.CX X.prog X.w) k f (spG G m) := by rw [cc.k]; exact F
  exact run_fnRS (E := EW W σ) F' hr (passAt cc.tk σ) I r ⟨ρ, S, es, rl, rv, p⟩
theorem run_makeS {pins : List (Addr × Obj)} {σ : St} {H : Hp} {s : Shared} {Q : VK} {us : List Value} {vs : List V} {CX : CXT} {sp : Sp} {E : XK} (M : Mk X.K C f) (F : FnR X.prog X.w X.K X.mg X.base CX k f sp) (hr : Room (k + 1) X.A)
    (hx : PassesAt CX X σ E) (I : Inv X pins σ H s) (r : Vals vs us)
    (h : ∀ x dx, H x = none → H dx = none → dx ≠ x → sp (.ref x :: vs) (upd (upd H dx (.own x)) x (.ins C dx [])) (fun v H2 => v = .non ∧ Q (.ref x) H2) E) :
    wpAny (model X.prog X.w) X.A (call (.ref C) us) (EP X pins σ Q) X.xe s := by
  have hq := h (s.heap.objs.size + 1) s.heap.objs.size (I.hok.fresh (Nat.le_succ _)) (I.hok.fresh (Nat.le_refl _)) (Nat.ne_of_lt (Nat.lt_succ_self _))
  have I2 := Inv.made (C := C) I
  have r2 : Vals (V.ref (s.heap.objs.size + 1) :: vs) (Value.ref (s.heap.objs.size + 1) :: us) := .cons rfl r
  refine wpAny_call (make_map (f := f) I.kIn M.makes M.init (beq_iff_eq.mp M.fn) (codeAny_mono (F _ X.stack _ _ (Value.ref (s.heap.objs.size + 1) :: us) _ _ E (hr.make C us [])
    (I2.env0.make C us []) r2 hq) fun r s' hq' => ?_))
  cases r with
  | error e => exact hx pins _ _ e s' I2 hq'
  | ok fl =>
    cases fl with
    | ret u =>
      obtain ⟨v, H', I3, rv, ev, q3⟩ := I2.after hq'
      subst ev
      exact ⟨rv, ⟨V.ref (s.heap.objs.size + 1), H', I3, rfl, q3⟩⟩
    | next => exact False.elim hq'
    | brk => exact False.elim hq'
    | cont => exact False.elim hq'
theorem fns_make {c : Nat} (cc : Cc G X W) (hC : G.cls c = some C) (M : Mk X.K C f) (F : Cal G X.prog X.w X.mg X.base k f m) (hr : Room (k + 1) X.A) : FnS G X W (.ref C) (makeW c m) := by
  intro pins s σ H xs us Q ρ S es I r rl rv p
  unfold makeW at p
  have F' : FnR X.prog X.w X.K X.mg X.base (L2.CX X.prog X.w) k f (spG G m) := by rw [cc.k]; exact F
  refine run_makeS (E := EW W σ) M F' hr (passAt cc.tk σ) I r fun a dx ha hdx hne => ?_
  have ha1 : L2.upd H dx (.own a) a = none := by rw [upd_ne (Ne.symm hne)]; exact ha
  have l1 : Le G ρ H ρ (L2.upd H dx (.own a)) := Le.new hdx
  have rl1 := rl.other (o := .own a) hdx
  have l2 : Le G ρ (L2.upd H dx (.own a)) (ρ.push a) (L2.upd (L2.upd H dx (.own a)) a (.ins C dx [])) := Le.push ha1
  have rl2 : Rl G (ρ.push a) (S.push (.ins c [])) (L2.upd (L2.upd H dx (.own a)) a (.ins C dx [])) := rl1.push ha1 (.ins hC .nil)
  have l12 := l1.trans l2
  refine ⟨ρ.push a, S.push (.ins c []), .ref S.size :: es, rl2, .cons (RV.new rl1) (rv.mono l12), ?_⟩
  refine PostR.bind (R := RV G) (PostR.le p l12) fun ρ3 H3 S3 d v l3 rl3 rv3 p3 => ?_
  cases rv3 with
  | non =>
    refine ⟨rfl, post_ok (S := S3) p3 rl3 (.ref (pre_get l3.pre ?_))⟩
    rw [← rl1.len]
    simp [Wd.push]
  | _ => exact False.elim p3
end
section
variable {G : Gx} {X : Cx} {W : WX} {e o : Expr} {es : List Expr} {x name : Str} {p pos apos : Pos} {f : Addr} {m : FN} {ma : MA} {mo mv : ME}
/-- f(e, ..) -/
theorem se_call (hc : FnS G X W (.ref f) m) (hg : Gl X x) (hm : X.mg x = some (.ref f)) (hk : PySem.W.keepIn X.K (.ref f) = true) (ha : SA G X W (e :: es) ma) (hdb : (x == ("__debug__" : Str)) = false := by decide)
    (he : starEach (e :: es) X.env = (false, eval e X.env) :: starEach es X.env := by rfl) (hpl : (backTo pos (starEach es X.env)).any (·.1) = false := by rfl) : SE G X W (.Call (.Name x p) (e :: es) [] pos) (eFn m ma) := by
  refine ⟨fun pins s σ H Q I ⟨ρ, σs, S, rl, re, p⟩ => ?_⟩
  refine wpAny_Call_Name_kw (ld_glob I hg hm ?_ hdb)
  refine PySem.W.callWith_K (h₀ := X.base) I.ok.mod.kin hk (ha.go I rl re p fun us s1 xs H1 ρ1 S1 ds I1 rx l1 rl1 re1 rv1 p1 => ⟨I1.kIn, hc pins s1 σ H1 xs us Q ρ1 S1 ds I1 rx rl1 rv1 p1⟩) he hpl
theorem se_call0 (hc : FnS G X W (.ref f) m) (hg : Gl X x) (hm : X.mg x = some (.ref f)) (hk : PySem.W.keepIn X.K (.ref f) = true) (hdb : (x == ("__debug__" : Str)) = false := by decide) : SE G X W (.Call (.Name x p) [] [] pos) (eFn m (aList [])) := by
  refine ⟨fun pins s σ H Q I ⟨ρ, σs, S, rl, re, p⟩ => ?_⟩
  refine wpAny_Call_Name_kw (ld_glob I hg hm ?_ hdb)
  exact PySem.W.callWith_K0 I.kIn hk (hc pins s σ H [] [] Q ρ S [] I .nil rl .nil p)
/-- o.m(e, ..): by the class of o -/
abbrev Disp := Nat → Option FN
def eMeth (ds : Disp) (fi : Nat) (mo : ME) (ma : MA) : ME := fun σ S => (mo σ S).bind fun o S1 => match o with
  | .ref i => (match S1.get i with
    | some (.ins c fs) => (match ds c, fs.lookup fi with
      | some g, none => (ma σ S1).bind fun xs S2 => g (.ref i :: xs) S2
      | _, _ => .bad)
    | _ => .bad)
  | _ => .bad
structure MethS (G : Gx) (X : Cx) (W : WX) (name : Str) (c : Nat) (g : FN) : Prop where
  ex : ∃ C f, G.cls c = some C ∧ Cls X.K C ∧ Meth X.K C name f ∧ FnS G X W (.ref f) g
theorem rfs_lookup {ρ : Wd} {H : Hp} {fi : Nat} : ∀ {fs : List (Nat × D)} {us : List (Str × V)}, RFs G ρ H fs us → (fs.lookup fi = none ∧ us.lookup (G.fld fi) = none) ∨ ∃ d v, fs.lookup fi = some d ∧ us.lookup (G.fld fi) = some v ∧ RV G ρ H d v
  | _, _, .nil => .inl ⟨rfl, rfl⟩
  | _, _, .cons (n := n) (d := d) (v := v) (fs := fs) (us := us) r t => by
    by_cases h : fi = n
    · subst h
      exact .inr ⟨d, v, by simp [List.lookup], by simp [List.lookup], r⟩
    · have h1 : (fi == n) = false := by simp [h]
      have h2 : (G.fld fi == G.fld n) = false := beq_eq_false_iff_ne.mpr fun e => h (G.inj _ _ e)
      simp only [List.lookup, h1, h2]
      exact rfs_lookup t
theorem se_meth0 {ds : Disp} {fi : Nat} {pl : Sem Bool} (cc : Cc G X W) (he : SE G X W o mo) (hf : G.fld fi = name) (hd : ∀ c g, ds c = some g → MethS G X W name c g)
    (ht : eval (.Call (.Attribute o name apos) [] [] pos) X.env = (do
      let ov ← eval o X.env
      standAt apos.atName
      let (f, first) ← holding [ov] (getMethod ov name pl)
      callWith pos f first (backTo pos (starEach [] X.env)) (backToKw pos (keywordEach [] X.env))) := by rfl) : SE G X W (.Call (.Attribute o name apos) [] [] pos) (eMeth ds fi mo (aList [])) := by
  refine ⟨fun pins s σ H Q I ⟨ρ, σs, S, rl, re, p⟩ => ?_⟩
  refine PySem.W.methodCall_KW (pl := pl) (he.go I rl re p fun u s1 x H1 ρ1 S1 d I1 rx l1 rl1 re1 rv1 p1 => ?_) ht
  cases rv1 with
  | @ref i a hi =>
    obtain rfl : u = Value.ref a := rx
    cases q : S1.get i with
    | none => simp only [q] at p1; exact p1.elim
    | some ob =>
      obtain ⟨h, hu, ro⟩ := rl1.at hi q
      cases ro with
      | @ins c C dx fs us hC hfs =>
        simp only [q] at p1
        cases q2 : ds c with
        | none => simp only [q2] at p1; exact p1.elim
        | some g =>
          rcases rfs_lookup (fi := fi) hfs with ⟨h1, h2⟩ | ⟨d, v, h1, h2, _⟩
          · simp only [q2, h1] at p1
            obtain ⟨C', f, hC', hcl, hmt, hfn⟩ := (hd c g q2).ex
            rw [hC] at hC'
            cases hC'
            refine getmeth_ok I1 hu hcl hmt (by rw [← hf]; exact h2) ?_
            exact PySem.W.callWith_K0 (first := [.ref a]) I1.kIn hmt.kp (hfn pins s1 σ H1 [.ref a] [.ref a] Q ρ1 S1 [.ref i] I1 (.cons rfl .nil) rl1 (.cons (.ref hi) .nil) p1)
          · simp only [q2, h1] at p1
            exact p1.elim
      | _ => simp only [q] at p1; exact p1.elim
  | _ => exact False.elim p1
/-- o.f: a field (none), a property (its getter) -/
abbrev ADisp := Nat → Option (Option FN)
def noExc (r : Res D) : Res D := match r with | .exc _ _ => .bad | r => r
def attrF (ds : ADisp) (fi : Nat) (o : D) (S : Store) : Res D := match o with
  | .ref i => (match S.get i with
    | some (.ins c fs) => (match ds c with
      | some none => (match fs.lookup fi with | some d => .ok d S | none => .bad)
      | some (some g) => noExc (g [.ref i] S)
      | none => .bad)
    | _ => .bad)
  | _ => .bad
structure FieldS (G : Gx) (X : Cx) (name : Str) (c : Nat) : Prop where
  ex : ∃ C, G.cls c = some C ∧ Cls X.K C ∧ NoAttr X.K C name
/-- the getter's promise -/
structure PropS (G : Gx) (X : Cx) (name : Str) (c : Nat) (g : FN) : Prop where
  ex : ∃ C p f k, G.cls c = some C ∧ Cls X.K C ∧ PropOf X.K C name p f ∧ FnR X.prog X.w X.K X.mg X.base (L2.CX X.prog X.w) k f (spG G g) ∧ Room (k + 1) X.A
theorem getprop_okR {C p g a dx : Addr} {fs : List (Str × V)} {f : Str} {k : Nat} {CX : CXT} {sp : Sp} {E : XK} {pins : List (Addr × Obj)} {σ : St} {H : Hp} {s : Shared} {Q : VK} {b : Bool} {E' : Value → Shared → Prop} (I : Inv X pins σ H s) (ea : H a = some (.ins C dx fs)) (c : Cls X.K C) (hp : PropOf X.K C f p g)
    (F : FnR X.prog X.w X.K X.mg X.base CX k g sp) (hr : Room (k + 1) X.A) (hx : Passes CX X.nox E) (h : sp [.ref a] H Q E) :
    wpAny (model X.prog X.w) X.A (getAttr (.ref a) f b) (EP X pins σ Q) E' s := by
  obtain ⟨mA, O, _, _, _, _⟩ := ins_get I.hok ea
  obtain ⟨od, J, _⟩ := O.look
  obtain ⟨rest, hrec⟩ := hp.rec_
  have I1 := I.tok (s.toks + 1)
  have hc : (PySem.W.clsIn X.K C).isSome = true := by
    obtain ⟨cd, hc, _⟩ := PySem.W.any_some c.hd
    rw [hc]
    rfl
  refine PySem.W.get_bind I.kIn J (PySem.W.plainGet_of (c.get f)).1 (PySem.W.findObj_data hc hp.at_ hp.get hp.tak) (PySem.W.plainGet_of (c.get f)).2 (wpAny_call (PySem.W.prop_get (s := { s with toks := s.toks + 1 }) I.kIn hrec ?_))
  refine codeAny_mono (F X.A.in1 X.stack { s with toks := s.toks + 1 } H [.ref a] [.ref a] Q E hr.in1 I1.env0.in1 (.cons rfl .nil) h) fun r s' hq => ?_
  cases r with
  | error er => exact False.elim (hx pins σ H { s with toks := s.toks + 1 } er s' (I1.wish _) hq)
  | ok fl =>
    cases fl with
    | ret u =>
      obtain ⟨v, H', I3, rv, q3⟩ := I1.after hq
      show wpAny _ _ (handedOut u) _ _ _
      rw [PySem.W.handedOut_of (handed_of rv)]
      exact wpAny_pure ⟨v, H', I3, rv, q3⟩
    | next => exact False.elim hq
    | brk => exact False.elim hq
    | cont => exact False.elim hq
theorem passNox {X : Cx} : Passes (L2.CX X.prog X.w) X.nox E0 := fun _ _ _ _ _ _ _ h => by
  obtain ⟨_, _, _, _, _, _, _, _, _, _, _, _, z⟩ := h
  exact z.elim
theorem se_attr {ds : ADisp} {fi : Nat} (cc : Cc G X W) (he : SE G X W o mo) (hf : G.fld fi = name) (h1 : ∀ c, ds c = some none → FieldS G X name c) (h2 : ∀ c g, ds c = some (some g) → PropS G X name c g)
    (hab : attributeBase o name X.env (eval o X.env) = eval o X.env := by rfl) : SE G X W (.Attribute o name pos) (eUn (attrF ds fi) mo) := by
  refine ⟨fun pins s σ H Q I ⟨ρ, σs, S, rl, re, p⟩ => ?_⟩
  refine attr_of hab (he.go I rl re p fun u s1 x H1 ρ1 S1 d I1 rx l1 rl1 re1 rv1 p1 => ?_)
  cases rv1 with
  | @ref i a hi =>
    obtain rfl : u = Value.ref a := rx
    unfold attrF at p1
    cases q : S1.get i with
    | none => simp only [q] at p1; exact p1.elim
    | some ob =>
      obtain ⟨h, hu, ro⟩ := rl1.at hi q
      cases ro with
      | @ins c C dx fs us hC hfs =>
        simp only [q] at p1
        cases q2 : ds c with
        | none => simp only [q2] at p1; exact p1.elim
        | some og =>
          cases og with
          | none =>
            rcases rfs_lookup (fi := fi) hfs with ⟨e1, e2⟩ | ⟨d, v, e1, e2, rv⟩
            · simp only [q2, e1] at p1
              exact p1.elim
            · simp only [q2, e1] at p1
              obtain ⟨C', hC', hcl, hna⟩ := (h1 c q2).ex
              rw [hC] at hC'
              cases hC'
              exact getattr_ok I1 hu hcl hna (by rw [← hf]; exact e2) fun u' s2 I2 ru => ⟨v, H1, I2, ru, post_ok p1 rl1 rv⟩
          | some g =>
            simp only [q2] at p1
            obtain ⟨C', pa, f, k, hC', hcl, hpo, F, hr⟩ := (h2 c g q2).ex
            rw [hC] at hC'
            cases hC'
            refine getprop_okR I1 hu hcl hpo F hr passNox ⟨ρ1, S1, [.ref i], rl1, .cons (.ref hi) .nil, ?_⟩
            cases q3 : g [.ref i] S1 with
            | ok d2 S2 => rw [q3] at p1; exact p1
            | exc x S2 => rw [q3] at p1; exact False.elim p1
            | bad => rw [q3] at p1; exact p1
      | _ => simp only [q] at p1; exact p1.elim
  | _ => exact False.elim p1
/-- o.f = e -/
def putN (n : Nat) (d : D) : List (Nat × D) → List (Nat × D)
  | [] => [(n, d)]
  | (k, e) :: r => if k = n then (k, d) :: r else (k, e) :: putN n d r
theorem putN_rel {ρ : Wd} {H : Hp} {fi : Nat} {d : D} {v : V} (rv : RV G ρ H d v) : ∀ {fs : List (Nat × D)} {us : List (Str × V)}, RFs G ρ H fs us → RFs G ρ H (putN fi d fs) (putF (G.fld fi) v us)
  | _, _, .nil => .cons rv .nil
  | _, _, .cons (n := n) (d := e) (v := y) (fs := fs) (us := us) r t => by
    unfold putN putF
    by_cases h : n = fi
    · subst h
      rw [if_pos rfl, if_pos rfl]
      exact .cons rv t
    · rw [if_neg h, if_neg fun q => h (G.inj _ _ q)]
      exact .cons r (putN_rel rv t)
def fldSet (ok : Nat → Bool) (fi : Nat) (o v : D) (S : Store) : Option Store := match o with
  | .ref i => (match S.get i with
    | some (.ins c fs) => if ok c && decide (fs.length < 900) then some (S.set i (.ins c (putN fi v fs))) else none
    | _ => none)
  | _ => none
def sFld (ok : Nat → Bool) (fi : Nat) (mo mv : ME) : MS := fun σ S => match (mv σ S).bind fun v S1 => (mo σ S1).bind fun o S2 => (match fldSet ok fi o v S2 with | some S3 => Res.ok () S3 | none => .bad) with
  | .ok _ S3 => .nx σ S3
  | .exc x S3 => .exc x σ S3
  | .bad => .bad
theorem ss_fld {ok : Nat → Bool} {fi : Nat} {pos' : Pos} (cc : Cc G X W) (ha : SE G X W o mo) (hv : SE G X W e mv) (hf : G.fld fi = name) (hok : ∀ c, ok c = true → FieldS G X name c)
    (hs : swapsWith e (some (.Attribute o name pos')) pos.line X.env = pure false := by rfl) : SS G X W (.Assign [.Attribute o name pos'] e pos) (sFld ok fi mo mv) := by
  refine ss_of (ps_fld ha hv hs) fun σ H Dn ρ σs S rl re p => ?_
  have p0 : PostR (α := Unit) (β := Unit) G (fun _ _ _ _ => True) ρ H ((mv σs S).bind fun v S1 => (mo σs S1).bind fun o S2 => (match fldSet ok fi o v S2 with | some S3 => Res.ok () S3 | none => .bad)) (fun _ H' => Dn.nx σ H') (EW W σ) := by
    unfold sFld at p
    cases q : ((mv σs S).bind fun v S1 => (mo σs S1).bind fun o S2 => (match fldSet ok fi o v S2 with | some S3 => Res.ok () S3 | none => .bad)) with
    | ok x S3 => rw [q] at p; exact fun ρ1 H1 _ l1 rl1 _ => p ρ1 H1 σ l1 rl1 (re.mono l1)
    | exc x S3 => rw [q] at p; exact fun ρ1 H1 c dd l1 rl1 rx => p ρ1 H1 σ c dd l1 rl1 (re.mono l1) rx
    | bad => rw [q] at p; exact p.elim
  refine ⟨ρ, σs, S, rl, re, PostR.bind (R := RV G) p0 fun ρ1 H1 S1 d y l1 rl1 rv1 p1 => ?_⟩
  refine ⟨ρ1, σs, S1, rl1, re.mono l1, PostR.bind (R := RV G) p1 fun ρ2 H2 S2 od x l2 rl2 rv2 p2 => ?_⟩
  cases rv2 with
  | @ref i a hi =>
    unfold fldSet at p2
    cases q : S2.get i with
    | none => simp only [q] at p2; exact p2.elim
    | some ob =>
      obtain ⟨h, hu, ro⟩ := rl2.at hi q
      cases ro with
      | @ins c C dx fs us hC hfs =>
        simp only [q] at p2
        by_cases hk : (ok c && decide (fs.length < 900)) = true
        · rw [if_pos hk] at p2
          rw [Bool.and_eq_true, decide_eq_true_eq] at hk
          obtain ⟨C', hC', hcl, hna⟩ := (hok c hk.1).ex
          rw [hC] at hC'
          cases hC'
          refine ⟨a, C, dx, us, rfl, hu, hcl, hna, by rw [← hfs.length]; omega, ?_⟩
          rw [← hf]
          exact p2 ρ2 _ () (rl2.leUpd hi hu trivial) (rl2.set hi q hu trivial (.ins hC (putN_rel (rv1.mono l2) hfs))) trivial
        · rw [if_neg hk] at p2
          exact p2.elim
      | _ => simp only [q] at p2; exact p2.elim
  | _ => exact False.elim p2
end
end L2.Mi

set_option Elab.async false
set_option linter.all false
set_option maxRecDepth 100000
set_option maxHeartbeats 4000000
namespace L2.Mi
open PySem PySem.Spec PyProof.Rows

def tagOf (S : Store) : D → Option Tag
  | .non => some (.b "NoneType")
  | .bl _ => some (.b "bool")
  | .int _ => some (.b "int")
  | .str _ => some (.b "str")
  | .tup _ => some (.b "tuple")
  | .kt _ => some (.b "tuple")
  | .lv _ => some (.b "list")
  | .dv _ _ => none
  | .ref i => (match S.get i with
    | some (.lst _) => some (.b "list")
    | some (.lck (.lst _)) => some (.b "list")
    | some (.dic _ _) => some (.b "dict")
    | some (.ins c _) => some (.o c)
    | _ => none)
  | _ => none
def clsTag : D → Option Tag
  | .ty n => some (.b n)
  | .cl c => some (.o c)
  | _ => none
section
variable {G : Gx} {X : Cx} {W : WX} {ρ : Wd} {S : Store} {H : Hp} {d : D} {x : V} {t : Tag}
theorem tag_rel (rl : Rl G ρ S H) (rv : RV G ρ H d x) (h : tagOf S d = some t) : ∃ tv, tagVal G.cls t = some tv ∧ TyX G.K H x tv := by
  cases rv with
  | non => cases h; exact ⟨_, rfl, .base .non⟩
  | bl b => cases h; exact ⟨_, rfl, .base (.bl b)⟩
  | int i => cases h; exact ⟨_, rfl, .base (.int i)⟩
  | str l => cases h; exact ⟨_, rfl, .base (.str _)⟩
  | tup ht hr => cases h; exact ⟨_, rfl, .base (.tup ht)⟩
  | kt ht hr =>
    cases h
    rcases ht with (ht | ⟨o, ht⟩) | ⟨o, its, n, hk, hc, _⟩
    · cases ht
    · cases ht
    · exact ⟨_, rfl, .kTuple hk hc⟩
  | lv n ht hr => cases h; exact ⟨_, rfl, .base (.lst ht)⟩
  | @ref i a hi =>
    unfold tagOf at h
    cases q : S.get i with
    | none => simp only [q] at h; cases h
    | some o =>
      obtain ⟨u, hu, ro⟩ := rl.at hi q
      cases ro with
      | lst r => simp only [q] at h; cases h; exact ⟨_, rfl, .base (.lst hu)⟩
      | dK r => simp only [q] at h; cases h; exact ⟨_, rfl, .base (.dK hu)⟩
      | dT r => simp only [q] at h; cases h; exact ⟨_, rfl, .base (.dT hu)⟩
      | @ins c C dx fs us hC hfs =>
        simp only [q] at h
        cases h
        have z := G.ci c C hC
        exact ⟨.ref C, by show (G.cls c).map Value.ref = _; rw [hC]; rfl, .base (.ins hu z.cl z.ha z.hn z.htk z.hm)⟩
      | lck r =>
        cases r with
        | lst r => simp only [q] at h; cases h; exact ⟨_, rfl, .base (.frz hu)⟩
        | _ => simp only [q] at h; cases h
  | _ => cases h
theorem clsTag_rel (rv : RV G ρ H d x) (h : clsTag d = some t) : ∃ tv, tagVal G.cls t = some tv ∧ ClsV x tv := by
  cases rv with
  | ty n => cases h; exact ⟨_, rfl, .ty n⟩
  | @cl c C hC => cases h; exact ⟨.ref C, by show (G.cls c).map Value.ref = _; rw [hC]; rfl, .own C⟩
  | _ => cases h
end
def isiF (isi : Tag → Tag → Option Bool) : FN := fun ds S => match ds with
  | [d, c] => (match tagOf S d, clsTag c with
    | some t, some u => (match isi t u with | some b => .ok (.bl b) S | none => .bad)
    | _, _ => .bad)
  | _ => .bad
section
variable {G : Gx} {X : Cx} {W : WX}
theorem fns_isi (cc : Cc G X W) : FnS G X W (.builtin "isinstance") (isiF G.isi) := FnS.of call_isi fun ρ S H ds xs Q E rl r p => by
  unfold isiF at p
  split at p
  · rename_i d c
    obtain ⟨x, y, rfl, h1, h2⟩ := rvs2 r
    cases q1 : tagOf S d with
    | none => simp only [q1] at p; exact p.elim
    | some t =>
      cases q2 : clsTag c with
      | none => simp only [q1, q2] at p; exact p.elim
      | some u =>
        cases q3 : G.isi t u with
        | none => simp only [q1, q2, q3] at p; exact p.elim
        | some b =>
          simp only [q1, q2, q3] at p
          obtain ⟨tv, e1, ty⟩ := tag_rel rl h1 q1
          obtain ⟨uv, e2, cv⟩ := clsTag_rel h2 q2
          exact ⟨x, y, tv, uv, b, rfl, cv, by rw [cc.k]; exact ty, by rw [cc.k]; exact G.isi_ok t u b tv uv q3 e1 e2, post_ok p rl (.bl b)⟩
  · exact p.elim
/-- an own class as a value -/
theorem se_cls {x : Str} {c : Nat} {C : Addr} {pos : Pos} (hg : Gl X x) (hm : X.mg x = some (.ref C)) (hC : G.cls c = some C) (hdb : (x == ("__debug__" : Str)) = false := by decide) : SE G X W (.Name x pos) (eC (.cl c)) :=
  se_of (pe_glob hg hm (v := .ref C) rfl hdb) fun _ _ _ _ _ _ rl _ p => post_ok p rl (.cl hC)

theorem inst_at {ρ : Wd} {S : Store} {H : Hp} {i c : Nat} {a : Addr} {fs : List (Nat × D)} (rl : Rl G ρ S H) (hi : ρ.v[i]? = some a) (q : S.get i = some (.ins c fs)) : ∃ C dx us, G.cls c = some C ∧ H a = some (.ins C dx us) := by
  obtain ⟨u, hu, ro⟩ := rl.at hi q
  cases ro with
  | @ins c C dx fs us hC hfs => exact ⟨C, dx, us, hC, hu⟩
theorem cmpBack_of {Q : Value → Shared → Prop} {x : V} {v : Value} {s : Shared} (r : RelV x v) (q : Q v s) : PySem.W.CmpBack Q v s := by
  cases x with
  | non => cases r; exact q
  | bl _ => cases r; exact q
  | int _ => obtain ⟨t, rfl⟩ := r; exact q
  | str _ => obtain ⟨t, rfl⟩ := r; exact q
  | byt _ => obtain ⟨t, rfl⟩ := r; exact q
  | flt _ => obtain ⟨t, rfl⟩ := r; exact q
  | ref _ => cases r; exact q
  | ty _ => cases r; exact q
/-- x op y by the class of x; y an int or of the same class -/
def ownB (ds : Disp) : D → D → Store → Res D := fun x y S => match x with
  | .ref i => (match S.get i with
    | some (.ins c _) => (match ds c with
      | some g => (match y with
        | .int _ => g [.ref i, y] S
        | .ref j => (match S.get j with | some (.ins c' _) => if c' = c then g [.ref i, y] S else .bad | _ => .bad)
        | _ => .bad)
      | none => .bad)
    | _ => .bad)
  | _ => .bad
structure OpClsS (G : Gx) (X : Cx) (W : WX) (op : Operator) (c : Nat) (g : FN) : Prop where
  ex : ∃ C f rc, G.cls c = some C ∧ PySem.W.selfFirst X.K C = true ∧ PySem.W.findIn X.K (.ref C) (PySem.dunder op.info.2) = some (some (.ref f)) ∧ PySem.W.isFn X.K (.ref f) = true ∧
    PySem.W.findIn X.K (.ref C) (dunderR op.info.2) = some rc ∧ (rc = none ∨ ∃ g : Addr, rc = some (.ref g)) ∧ (∃ fo, PySem.W.findIn X.K (.type "int") (PySem.dunder op.info.2) = some fo) ∧
    (∃ ro, PySem.W.findIn X.K (.type "int") (dunderR op.info.2) = some ro) ∧ PySem.W.subIn X.K (.type "int") (.ref C) = some false ∧ FnS G X W (.ref f) g
theorem ops_own {op : Operator} {ds : Disp} (hd : ∀ c g, ds c = some g → OpClsS G X W op c g) : OpS G X W (binaryOp op) (ownB ds) := by
  intro pins s σ H x y v u Q ρ S d1 d2 I rx ry rl r1 r2 p
  cases r1 with
  | @ref i a hi =>
    obtain rfl : v = Value.ref a := rx
    unfold ownB at p
    cases q : S.get i with
    | none => simp only [q] at p; exact p.elim
    | some ob =>
      cases ob with
      | ins c fs =>
        simp only [q] at p
        cases q2 : ds c with
        | none => simp only [q2] at p; exact p.elim
        | some g =>
          simp only [q2] at p
          obtain ⟨C, f, rc, hC, sf, hs, hf, hr, hp, ⟨fo, h1⟩, ⟨ro, h2⟩, hsub, hfn⟩ := (hd c g q2).ex
          obtain ⟨C', dx, us, hC', hH⟩ := inst_at rl hi q
          rw [hC] at hC'
          cases hC'
          obtain ⟨mA, O, _⟩ := ins_get I.hok hH
          obtain ⟨od, J, _⟩ := O.look
          obtain ⟨mF, hF⟩ := I.fr
          have run : Post G ρ H (g [.ref i, d2] S) Q (EW W σ) → wpAny (model X.prog X.w) X.A (call (.ref f) [.ref a, u]) (PySem.W.CmpBack (EP X pins σ Q)) X.xe s := fun p => by
            refine thn (hfn pins s σ H [.ref a, y] [.ref a, u] Q ρ S [.ref i, d2] I (.cons rfl (.cons ry .nil)) rl (.cons (.ref hi) (.cons r2 .nil)) p) fun z s' h => ?_
            obtain ⟨zv, H', I', rz, q'⟩ := h
            exact cmpBack_of rz ⟨zv, H', I', rz, q'⟩
          cases r2 with
          | int n =>
            obtain ⟨t, rfl⟩ := ry
            exact PySem.W.ksp_binT (T := "int") hF I.ok.mod.kin J rfl sf hs hf hr hp h1 h2 hsub (run p)
          | @ref j b hj =>
            obtain rfl : u = Value.ref b := ry
            cases q3 : S.get j with
            | none => simp only [q3] at p; exact p.elim
            | some ob2 =>
              cases ob2 with
              | ins c' fs' =>
                simp only [q3] at p
                by_cases hcc : c' = c
                · rw [if_pos hcc] at p
                  subst hcc
                  obtain ⟨C2, dx2, us2, hC2, hH2⟩ := inst_at rl hj q3
                  rw [hC] at hC2
                  cases hC2
                  obtain ⟨mA2, O2, _⟩ := ins_get I.hok hH2
                  obtain ⟨od2, J2, _⟩ := O2.look
                  exact PySem.W.binop_K hF I.ok.mod.kin J J2.type sf hs hf (run p)
                · rw [if_neg hcc] at p
                  exact p.elim
              | _ => simp only [q3] at p; exact p.elim
          | _ => exact p.elim
      | _ => simp only [q] at p; exact p.elim
  | _ => exact p.elim
structure UnClsS (G : Gx) (X : Cx) (W : WX) (name : Str) (c : Nat) (g : FN) : Prop where
  ex : ∃ C f, G.cls c = some C ∧ PySem.W.findIn X.K (.ref C) name = some (some (.ref f)) ∧ PySem.W.isFn X.K (.ref f) = true ∧ FnS G X W (.ref f) g
/-- x == y by the class of x -/
def eqOwn (isi : Tag → Tag → Option Bool) (ds : Disp) : D → D → Store → Res D := fun x y S => match x with
  | .ref i => (match S.get i, tagOf S y with
    | some (.ins c _), some t => (match ds c with
      | some g => if (t == .o c || isi t (.o c) == some false) = true then g [.ref i, y] S else .bad
      | none => .bad)
    | _, _ => .bad)
  | _ => .bad
theorem kit_false {K : PySem.W.Frag} {t : Value} {C : Addr} (h : PySem.W.kitOne K t (.ref C) = some false) : PySem.W.subIn K t (.ref C) = some false := by
  unfold PySem.W.kitOne at h
  split at h
  · cases h
  · unfold PySem.W.kitCls at h
    simp only at h
    split at h
    · exact h
    · cases h
theorem ops_eqOwn {ds : Disp} (cc : Cc G X W) (hu : X.A.units + 64 < cLine) (hd : ∀ c g, ds c = some g → UnClsS G X W "__eq__" c g) : OpS G X W (compareOp .Eq) (eqOwn G.isi ds) := by
  intro pins s σ H x y v u Q ρ S d1 d2 I rx ry rl r1 r2 p
  cases r1 with
  | @ref i a hi =>
    obtain rfl : v = Value.ref a := rx
    unfold eqOwn at p
    cases q : S.get i with
    | none => simp only [q] at p; exact p.elim
    | some ob =>
      cases ob with
      | ins c fs =>
        cases q4 : tagOf S d2 with
        | none => simp only [q, q4] at p; exact p.elim
        | some t =>
          simp only [q, q4] at p
          cases q2 : ds c with
          | none => simp only [q2] at p; exact p.elim
          | some g =>
            simp only [q2] at p
            by_cases hn : (t == .o c || G.isi t (.o c) == some false) = true
            · rw [if_pos hn] at p
              obtain ⟨C, f, hC, hs, hf, hfn⟩ := (hd c g q2).ex
              obtain ⟨C', dx, us, hC', hH⟩ := inst_at rl hi q
              rw [hC] at hC'
              cases hC'
              obtain ⟨mA, O, _⟩ := ins_get I.hok hH
              obtain ⟨od, J, _⟩ := O.look
              obtain ⟨mF, hF⟩ := I.fr
              obtain ⟨tv, e1, ty⟩ := tag_rel rl r2 q4
              obtain ⟨Pk, Z, pk, _⟩ := kit_of I ry (by rw [cc.k]; exact ty)
              have oC : tagVal G.cls (.o c) = some (.ref C) := by show (G.cls c).map Value.ref = _; rw [hC]; rfl
              have nf : PySem.W.notFirst X.K C tv = true := by
                unfold PySem.W.notFirst
                rw [Bool.or_eq_true] at hn ⊢
                rcases hn with hn | hn
                · refine .inl ?_
                  have e2 : t = .o c := beq_iff_eq.mp hn
                  subst e2
                  rw [oC] at e1
                  cases e1
                  exact beq_self_eq_true _
                · refine .inr ?_
                  have e2 : G.isi t (.o c) = some false := beq_iff_eq.mp hn
                  rw [beq_iff_eq, cc.k]
                  exact kit_false (G.isi_ok t (.o c) false tv (.ref C) e2 e1 oC)
              show wpAny (model X.prog X.w) X.A (richCompare .Eq (.ref a) u) (EP X pins σ Q) X.xe s
              refine PySem.W.cmp_K (op := .Eq) (by omega) hF I.ok.mod.kin J (Z.ty _ _ I.kIn pk) nf hs hf ?_
              refine thn (hfn pins s σ H [.ref a, y] [.ref a, u] Q ρ S [.ref i, d2] I (.cons rfl (.cons ry .nil)) rl (.cons (.ref hi) (.cons r2 .nil)) p) fun z s' h => ?_
              obtain ⟨zv, H', I', rz, q'⟩ := h
              exact cmpBack_of rz ⟨zv, H', I', rz, q'⟩
            · rw [if_neg hn] at p
              exact p.elim
      | _ => simp only [q] at p; exact p.elim
  | _ => exact p.elim
end
end L2.Mi

set_option Elab.async false
set_option linter.all false
set_option maxRecDepth 100000
set_option maxHeartbeats 4000000
namespace PySem.W
open PySem PySem.Calls PyProof.Rows
section
variable {prog : Program} {w : World} {A : Around} {E : Value → Shared → Prop} {s : Shared} {K : Frag} {x C L f : Addr} {h₀ : Heap} {m : Str → Option Value} {ox : Obj} {od : Option Obj} {b tb : Value}
theorem mi_ifBoundB {M : Model} {T : String} {name : Str} {id : String} {args : List Value} {Q : Option Value → Shared → Prop} (X : K.In s.heap) (I : InstAt s.heap x ox C od) (hs : findIn K (.ref C) name = some (some (.builtin id))) (S : Slot T name id)
    (h : wpAny M A (call (.builtin id) (.ref x :: args)) (fun v => Q (some v)) E s) : wpAny M A (callSpecialIfBound? (.ref x) name args) Q E s := by
  simp only [callSpecialIfBound?, bindSpecialIfBound?]
  refine wpAny_holding (wpAny_bind (wpAny_bind (wpAny_bind (I.type.here ((looks_findIn X hs).here ?_)))))
  simp only [S.bind]
  refine wpAny_bind (wpAny_askSetting (wpAny_ite ?_))
  have fin : wpAny M A (call (.builtin id) ([.ref x] ++ args) >>= fun v => pure (some v)) Q E s := wpAny_bind (wpAny_mono h (fun v s' h' => wpAny_pure h') fun _ _ h' => h')
  split
  · exact wpAny_bind (wpAny_pure (wpAny_pure fin))
  · exact wpAny_tryCatch (wpAny_bind (wpAny_pure (wpAny_pure fin)))
theorem mi_ne {Q : Value → Shared → Prop} (hu : A.units + 1 < cLine) (F : Fr h₀ L s.heap m) (X₀ : K.In h₀) (I : InstAt s.heap x ox C od) (hb : Looks (model prog w) s.heap (typeOf b) tb) (hn : notFirst K C tb = true)
    (hs : findIn K (.ref C) "__ne__" = some (some (.builtin "object.__ne__"))) (hm : mroIn K C (.type "object") = some true) (he : findIn K (.ref C) "__eq__" = some (some (.ref f))) (hf : isFn K (.ref f) = true)
    (h : wpAny (model prog w) A.in1 (call (.ref f) [.ref x, b]) (fun v s' => ∃ k, v = .bool k ∧ Q (.bool (!k)) s') E s) : wpAny (model prog w) A (richCompare .NotEq (.ref x) b) Q E s := by
  have X := X₀.keeps F.keep
  have inst : Looks (model prog w) s.heap (isInstance (.ref x) (.type "object")) true := I.type.andThen (looks_mroIn X hm)
  have one : wpAny (model prog w) A (tryCompare (.ref x) (cmpInfo .NotEq).2.1 b) (fun r s' => ∃ v, r = some v ∧ Q v s') E s := by
    unfold tryCompare
    refine wpAny_bind (mi_ifBoundB (T := "object") X I hs PySem.F.cmp_object.ne ?_)
    refine wpAny_call (codeAny_call_builtin (by decide +kernel) PySem.F.cmpEntry_ne (check_slot PySem.F.cmpKind_ne PySem.F.cmpSplit_ne inst (PySem.F.cmpArgs_ne _ _) ?_))
    unfold Builtin.«object.__ne__»
    refine wpAny_bind (wpAny_pure ?_)
    dsimp only
    refine wpAny_bind (wpAny_cRoomFor (show A.units + 1 < cLine from hu) ?_)
    refine wpAny_bind (ifBound_K X I he hf (wpAny_mono h (fun v s' hv => ?_) fun _ _ e => e))
    obtain ⟨k, rfl, q⟩ := hv
    dsimp only
    refine wpAny_bind (wpAny_truthy_bool ?_)
    exact wpAny_pure (wpAny_pure ⟨_, rfl, q⟩)
  unfold richCompare
  simp only [oneThing_ref]
  refine wpAny_holding (wpAny_bind (wpAny_cRoomFor (by omega) ?_))
  refine wpAny_bind (I.type.here (wpAny_bind (hb.here ?_)))
  split
  · rename_i q
    have e : subIn K tb (.ref C) = some false := by
      rcases Bool.or_eq_true_iff.mp hn with e | e
      · rw [beq_iff_eq.mp e] at q; simp at q
      · exact beq_iff_eq.mp e
    refine wpAny_bind ((looks_subIn X e).here ?_)
    simp only [Bool.false_eq_true, if_false]
    refine wpAny_bind (wpAny_mono one (fun r s' z => ?_) fun _ _ e => e)
    obtain ⟨v, rfl, hq⟩ := z
    exact wpAny_pure hq
  · refine wpAny_bind (wpAny_pure ?_)
    simp only [Bool.false_eq_true, if_false]
    refine wpAny_bind (wpAny_mono one (fun r s' z => ?_) fun _ _ e => e)
    obtain ⟨v, rfl, hq⟩ := z
    exact wpAny_pure hq
end
end PySem.W
namespace L2.Mi
open PySem PySem.Spec PyProof.Rows
/-- x != y by the own == of x's class -/
def neOwn (isi : Tag → Tag → Option Bool) (ds : Disp) : D → D → Store → Res D := fun x y S => match x with
  | .ref i => (match S.get i, tagOf S y with
    | some (.ins c _), some t => (match ds c with
      | some g => if (t == .o c || isi t (.o c) == some false) = true then (match g [.ref i, y] S with | .ok (.bl k) S1 => .ok (.bl (!k)) S1 | _ => .bad) else .bad
      | none => .bad)
    | _, _ => .bad)
  | _ => .bad
structure NeClsS (G : Gx) (X : Cx) (c : Nat) (g : FN) : Prop where
  ex : ∃ C f k, G.cls c = some C ∧ PySem.W.findIn X.K (.ref C) "__ne__" = some (some (.builtin "object.__ne__")) ∧ PySem.W.findIn X.K (.ref C) "__eq__" = some (some (.ref f)) ∧ PySem.W.isFn X.K (.ref f) = true ∧
    FnR X.prog X.w X.K X.mg X.base (L2.CX X.prog X.w) k f (spG G g) ∧ Room (k + 1) X.A
section
variable {G : Gx} {X : Cx} {W : WX}
theorem ops_neOwn {ds : Disp} (cc : Cc G X W) (hu : X.A.units + 64 < cLine) (hd : ∀ c g, ds c = some g → NeClsS G X c g) : OpS G X W (compareOp .NotEq) (neOwn G.isi ds) := by
  intro pins s σ H x y v u Q ρ S d1 d2 I rx ry rl r1 r2 p
  cases r1 with
  | @ref i a hi =>
    obtain rfl : v = Value.ref a := rx
    unfold neOwn at p
    cases q : S.get i with
    | none => simp only [q] at p; exact p.elim
    | some ob =>
      cases ob with
      | ins c fs =>
        cases q4 : tagOf S d2 with
        | none => simp only [q, q4] at p; exact p.elim
        | some t =>
          simp only [q, q4] at p
          cases q2 : ds c with
          | none => simp only [q2] at p; exact p.elim
          | some g =>
            simp only [q2] at p
            by_cases hn : (t == .o c || G.isi t (.o c) == some false) = true
            · rw [if_pos hn] at p
              obtain ⟨C, f, k, hC, hs, he, hf, F, hr⟩ := (hd c g q2).ex
              obtain ⟨C', dx, us, hC', hH⟩ := inst_at rl hi q
              rw [hC] at hC'
              cases hC'
              obtain ⟨mA, O, _⟩ := ins_get I.hok hH
              obtain ⟨od, J, _⟩ := O.look
              obtain ⟨mF, hF⟩ := I.fr
              obtain ⟨tv, e1, ty⟩ := tag_rel rl r2 q4
              obtain ⟨Pk, Z, pk, _⟩ := kit_of I ry (by rw [cc.k]; exact ty)
              have oC : tagVal G.cls (.o c) = some (.ref C) := by show (G.cls c).map Value.ref = _; rw [hC]; rfl
              have nf : PySem.W.notFirst X.K C tv = true := by
                unfold PySem.W.notFirst
                rw [Bool.or_eq_true] at hn ⊢
                rcases hn with hn | hn
                · refine .inl ?_
                  have e2 : t = .o c := beq_iff_eq.mp hn
                  subst e2
                  rw [oC] at e1
                  cases e1
                  exact beq_self_eq_true _
                · refine .inr ?_
                  have e2 : G.isi t (.o c) = some false := beq_iff_eq.mp hn
                  rw [beq_iff_eq, cc.k]
                  exact kit_false (G.isi_ok t (.o c) false tv (.ref C) e2 e1 oC)
              show wpAny (model X.prog X.w) X.A (richCompare .NotEq (.ref a) u) (EP X pins σ Q) X.xe s
              refine PySem.W.mi_ne (by omega) hF I.ok.mod.kin J (Z.ty _ _ I.kIn pk) nf hs (by rw [cc.k]; exact (G.ci c C hC).hm) he hf ?_
              have hsp : spG G g [.ref a, y] H (fun z H' => ∃ k, z = .bl k ∧ Q (.bl (!k)) H') E0 := ⟨ρ, S, [.ref i, d2], rl, .cons (.ref hi) (.cons r2 .nil), by
                cases q5 : g [.ref i, d2] S with
                | ok d S1 =>
                  rw [q5] at p
                  intro ρ1 H1 z l1 rl1 rv1
                  cases rv1 with
                  | bl k => exact ⟨k, rfl, p ρ1 H1 _ l1 rl1 (.bl _)⟩
                  | _ => exact False.elim p
                | exc xx S1 => rw [q5] at p; exact False.elim p
                | bad => rw [q5] at p; exact False.elim p⟩
              refine wpAny_call (codeAny_mono (F X.A.in1 X.stack s H [.ref a, u] [.ref a, y] _ E0 hr.in1 I.env0.in1 (.cons rfl (.cons ry .nil)) hsp) fun r s' hq => ?_)
              cases r with
              | error er => exact False.elim (passNox (X := X) pins σ H s er s' (I.wish _) hq)
              | ok fl =>
                cases fl with
                | ret w =>
                  obtain ⟨z, H', I', rz, k, ez, q6⟩ := I.after hq
                  subst ez
                  cases rz
                  exact ⟨k, rfl, .bl (!k), H', I', rfl, q6⟩
                | next => exact False.elim hq
                | brk => exact False.elim hq
                | cont => exact False.elim hq
            · rw [if_neg hn] at p
              exact p.elim
      | _ => simp only [q] at p; exact p.elim
  | _ => exact p.elim
end
def eCallI (ds : Disp) (mf : ME) (ma : MA) : ME := fun σ S => (mf σ S).bind fun o S1 => match o with
  | .ref i => (ma σ S1).bind fun xs S2 => (match S2.get i with
    | some (.ins c _) => (match ds c with | some g => g (.ref i :: xs) S2 | none => .bad)
    | _ => .bad)
  | _ => .bad
structure CallOS (G : Gx) (X : Cx) (c : Nat) (g : FN) : Prop where
  ex : ∃ C f k, G.cls c = some C ∧ StX.CallO X.K C f ∧ FnR X.prog X.w X.K X.mg X.base (L2.CX X.prog X.w) k f (spG G g) ∧ Room k X.A
section
variable {G : Gx} {X : Cx} {W : WX} {e fe o : Expr} {es : List Expr} {pos apos p : Pos} {ma : MA} {mf mo m : ME} {name : Str}
theorem se_callI {ds : Disp} (cc : Cc G X W) (hf : SE G X W fe mf) (hd : ∀ c g, ds c = some g → CallOS G X c g) (ha : SA G X W (e :: es) ma)
    (ht : eval (.Call fe (e :: es) [] pos) X.env = (do callWith pos (← eval fe X.env) [] (backTo pos (starEach (e :: es) X.env)) (backToKw pos (keywordEach [] X.env))) := by rfl)
    (he : starEach (e :: es) X.env = (false, eval e X.env) :: starEach es X.env := by rfl) (hpl : (backTo pos (starEach es X.env)).any (·.1) = false := by rfl) : SE G X W (.Call fe (e :: es) [] pos) (eCallI ds mf ma) := by
  refine ⟨fun pins s σ H Q I ⟨ρ, σs, S, rl, re, p⟩ => ?_⟩
  refine Call_ (hf.go I rl re p fun u s1 x H1 ρ1 S1 d I1 rx l1 rl1 re1 rv1 p1 => ?_) ht
  cases rv1 with
  | @ref i a hi =>
    obtain rfl : u = Value.ref a := rx
    refine StX.callO_with (ha.go I1 rl1 re1 p1 fun us s2 xs H2 ρ2 S2 ds' I2 rx2 l2 rl2 re2 rv2 p2 => ?_) he hpl
    cases q : S2.get i with
    | none => simp only [q] at p2; exact p2.elim
    | some ob =>
      cases ob with
      | ins c fs =>
        simp only [q] at p2
        cases q2 : ds c with
        | none => simp only [q2] at p2; exact p2.elim
        | some g =>
          simp only [q2] at p2
          obtain ⟨C, f, k, hC, hco, F, hr⟩ := (hd c g q2).ex
          have hi2 := pre_get l2.pre hi
          obtain ⟨C', dx, us', hC', hH⟩ := inst_at rl2 hi2 q
          rw [hC] at hC'
          cases hC'
          obtain ⟨mA, O, _⟩ := ins_get I2.hok hH
          obtain ⟨od, J, _⟩ := O.look
          refine ⟨⟨C, _, _, J, rfl⟩, ?_⟩
          refine wpAny_call (PySem.W.kco_code I2.kIn J rfl hco.at_ hco.fn hco.fi ?_)
          refine codeAny_mono (F X.A X.stack s2 H2 (.ref a :: us) (.ref a :: xs) Q (EW W σ) hr I2.env0 (.cons rfl rx2) ⟨ρ2, S2, .ref i :: ds', rl2, .cons (.ref hi2) rv2, p2⟩) fun r s' hq => ?_
          cases r with
          | error er => exact passAt cc.tk σ pins H2 s2 er s' I2 hq
          | ok fl =>
            cases fl with
            | ret w => exact I2.after hq
            | next => exact False.elim hq
            | brk => exact False.elim hq
            | cont => exact False.elim hq
      | _ => simp only [q] at p2; exact p2.elim
  | _ => exact False.elim p1

def eBm (ck : D → Store → Bool) (f : D → List D → Store → Res D) (mo : ME) (ma : MA) : ME := fun σ S => (mo σ S).bind fun o S1 => if ck o S1 then (ma σ S1).bind fun xs S2 => f o xs S2 else .bad
def MtS (G : Gx) (X : Cx) (W : WX) (id : String) (f : D → List D → Store → Res D) : Prop :=
  ∀ (pins : List (Addr × Obj)) (s : Shared) (σ : St) (H : Hp) (x : V) (xs : List V) (v : Value) (us : List Value) (Q : VK) (ρ : Wd) (S : Store) (d : D) (ds : List D), Inv X pins σ H s → RelV x v → Vals xs us → Rl G ρ S H → RV G ρ H d x → RVs G ρ H ds xs →
    Post G ρ H (f d ds S) Q (EW W σ) → wpAny (model X.prog X.w) X.A (call (.builtin id) (v :: us)) (EP X pins σ Q) X.xe s
theorem MtS.of {id : String} {f : D → List D → Store → Res D} {r : V → List V → Hp → VK → Prop} (hm : MtR X id r) (h : ∀ ρ S H d ds x xs Q E, Rl G ρ S H → RV G ρ H d x → RVs G ρ H ds xs → Post G ρ H (f d ds S) Q E → r x xs H Q) : MtS G X W id f :=
  fun pins s σ H x xs v us Q ρ S d ds I rx rs rl r1 r2 p => hm pins s σ H x xs v us Q I rx rs (h ρ S H d ds x xs Q _ rl r1 r2 p)
theorem se_bm {T id : String} {ck : D → Store → Bool} {f : D → List D → Store → Res D} (pa : PlainAttrs T) (slot : Slot T name id) (hty : typeOf (.builtin id) = pure (.type "method_descriptor")) (hm : MtS G X W id f)
    (hT : ∀ ρ S H d x, Rl G ρ S H → RV G ρ H d x → ck d S = true → tyV X.K T x H) (ho : SE G X W o mo) (ha : SA G X W (e :: es) ma)
    (hbase : attributeBase o name X.env (eval o X.env) = eval o X.env := by rfl)
    (hfew : ((backTo pos (starEach (e :: es) X.env)).all (fun x => !x.1) && (backToKw pos (keywordEach [] X.env)).all (fun x => x.1.isSome)
      && decide ((e :: es).length + ([] : List Keyword).length + (if ([] : List Keyword).isEmpty then 0 else 1) < 30)) = true := by rfl)
    (hline : (apos.endLine == pos.line) = true := by rfl) (hs : starEach (e :: es) X.env = (false, eval e X.env) :: starEach es X.env := by rfl) (hplain : (backTo pos (starEach es X.env)).any (·.1) = false := by rfl) :
    SE G X W (.Call (.Attribute o name apos) (e :: es) [] pos) (eBm ck f mo ma) := by
  refine ⟨fun pins s σ H Q I ⟨ρ, σs, S, rl, re, p⟩ => ?_⟩
  refine wpAny_Call_method_late hbase hfew hline rfl (ho.go I rl re p fun v s1 x H1 ρ1 S1 d I1 r1 l1 rl1 re1 rv1 p1 => ?_)
  by_cases hc : ck d S1 = true
  · rw [if_pos hc] at p1
    obtain ⟨h1, h2⟩ := tyV_is I1 r1 (hT ρ1 S1 H1 d x rl1 rv1 hc)
    refine ⟨T, id, pa, slot, hty, h1, h2, ?_⟩
    have hA : wpAny (model X.prog X.w) X.A (spliced (backTo pos (starEach (e :: es) X.env))) (fun us s2 => wpAny (model X.prog X.w) X.A (call (.builtin id) (v :: us)) (EP X pins σ Q) X.xe s2) X.xe s1 :=
      ha.go I1 rl1 re1 p1 fun us s2 xs H2 ρ2 S2 ds I2 rx2 l2 rl2 re2 rv2 p2 => hm pins s2 σ H2 x xs v us Q ρ2 S2 d ds I2 r1 rx2 rl2 (rv1.mono l2) rv2 p2
    rw [hs] at hA ⊢
    refine Calls.callWith_builtin (by show (false || (backTo pos (starEach es X.env)).any (·.1)) = false; rw [hplain] <;> rfl) (Calls.evalArgs_plain ?_)
    exact hA
  · rw [if_neg hc] at p1
    exact p1.elim
def isLst (d : D) (S : Store) : Bool := (listAt S d).isSome
theorem ck_list (cc : Cc G X W) : ∀ ρ S H d x, Rl G ρ S H → RV G ρ H d x → isLst d S = true → tyV X.K "list" x H := fun ρ S H d x rl rv h => by
  unfold isLst at h
  cases q : listAt S d with
  | none => rw [q] at h; cases h
  | some ds =>
    obtain ⟨a, xs, rfl, hq, _⟩ := listAt_rel rl rv q
    exact .inl ⟨rfl, xs, by rw [cc.k]; exact hq⟩
def appendF : D → List D → Store → Res D := fun o xs S => match o, xs with
  | .ref i, [y] => (match S.get i with
    | some (.lst ds) => if ds.length < lim then .ok .non (S.set i (.lst (ds ++ [y]))) else .bad
    | _ => .bad)
  | _, _ => .bad
theorem lst_at {ρ : Wd} {S : Store} {H : Hp} {i : Nat} {a : Addr} {ds : List D} (rl : Rl G ρ S H) (hi : ρ.v[i]? = some a) (q : S.get i = some (.lst ds)) : ∃ xs, H a = some (.lst xs) ∧ RVs G ρ H ds xs := by
  obtain ⟨u, hu, ro⟩ := rl.at hi q
  cases ro with
  | lst r => exact ⟨_, hu, r⟩
theorem mts_append : MtS G X W "list.append" appendF := MtS.of mt_append fun ρ S H d ds x xs Q E rl r1 r2 p => by
  unfold appendF at p
  split at p
  · rename_i i y
    obtain ⟨z, rfl, hz⟩ := rvs1 r2
    cases r1 with
    | @ref i a hi =>
      cases q : S.get i with
      | none => simp only [q] at p; exact p.elim
      | some ob =>
        cases ob with
        | lst es =>
          simp only [q] at p
          obtain ⟨us, hu, hr⟩ := lst_at rl hi q
          by_cases hl : es.length < lim
          · rw [if_pos hl] at p
            exact ⟨a, us, z, rfl, rfl, hu, by rw [← hr.length]; exact lim_lt hl, p ρ _ _ (rl.leUpd hi hu trivial) (rl.set hi q hu trivial (.lst (hr.append (.cons hz .nil)))) .non⟩
          · rw [if_neg hl] at p
            exact p.elim
        | _ => simp only [q] at p; exact p.elim
  · exact p.elim
/-- l[i] = v -/
def setL : D → D → D → Store → Option Store := fun o i v S => match o, i with
  | .ref a, .int k => (match S.get a with
    | some (.lst ds) => (match ixN ds.length k with | some j => some (S.set a (.lst (ds.set j v))) | none => none)
    | _ => none)
  | _, _ => none
theorem sts_list : StS G X setL := by
  intro pins s σ H x y z v u w Q ρ S S' d1 d2 d3 I rx ry rz rl r1 r2 r3 h k
  unfold setL at h
  split at h
  · rename_i i n
    cases r1 with
    | @ref i a hi =>
      cases r2 with
      | int _ =>
        cases q : S.get i with
        | none => simp only [q] at h; cases h
        | some ob =>
          cases ob with
          | lst es =>
            simp only [q] at h
            obtain ⟨us, hu, hr⟩ := lst_at rl hi q
            cases q2 : ixN es.length n with
            | none => simp only [q2] at h; cases h
            | some j =>
              simp only [q2] at h
              cases h
              refine set_list pins s σ H _ _ _ v u w Q I rx ry rz ⟨a, us, n, j, rfl, rfl, hu, by rw [← hr.length]; exact q2, ?_⟩
              exact k ρ _ (rl.leUpd hi hu trivial) (rl.set hi q hu trivial (.lst (hr.set r3 j)))
          | _ => simp only [q] at h; cases h
  · cases h
end
end L2.Mi

set_option Elab.async false
set_option linter.all false
set_option maxRecDepth 100000
set_option maxHeartbeats 4000000
namespace L2.Mi
open PySem PySem.Spec PyProof.Rows

def wipeD (σ : En) : List Nat → En
  | [] => σ
  | v :: vs => (wipeD σ vs).set v none
theorem wipe_set {σ : St} {i : Nat} {o : Option V} : ∀ {vs : List Nat}, wipe (σ.set i o) vs = if i ∈ vs then wipe σ vs else (wipe σ vs).set i o
  | [] => by simp [wipe]
  | w :: vs => by
    unfold wipe
    rw [wipe_set (vs := vs)]
    by_cases h1 : i ∈ vs
    · simp [h1]
    · by_cases h2 : i = w
      · subst h2
        simp [h1, List.set_set]
      · simp only [h1, List.mem_cons, h2, or_self, if_false]
        rw [List.set_comm _ _ h2]
theorem wipe_wipe {σ : St} : ∀ {vs : List Nat}, wipe (wipe σ vs) vs = wipe σ vs := by
  have key : ∀ (ws vs : List Nat), (∀ w ∈ ws, w ∈ vs) → wipe (wipe σ ws) vs = wipe σ vs := by
    intro ws
    induction ws with
    | nil => intro vs _; rfl
    | cons w ws ih =>
      intro vs h
      show wipe ((wipe σ ws).set w none) vs = _
      rw [wipe_set, if_pos (h w (by simp))]
      exact ih vs fun x hx => h x (by simp [hx])
  exact fun {vs} => key vs vs fun _ h => h
/-- the targets of a comprehension: a name, some names -/
inductive TgN where
  | one (i : Nat)
  | many (is : List Nat)
def TgN.slots : TgN → List Nat
  | .one i => [i]
  | .many is => is
def setAll : List Nat → List D → En → Option En
  | [], [], σ => some σ
  | i :: is, d :: ds, σ => setAll is ds (σ.set i (some d))
  | _, _, _ => none
def TgN.put (t : TgN) (d : D) (σ : En) : Option En := match t with
  | .one i => some (σ.set i (some d))
  | .many is => (match d with | .tup ds => setAll is ds σ | _ => none)
def gNames : List Nat → TGs
  | [] => gNil
  | i :: is => gCons (L2.gName i) (gNames is)
def TgN.tg (K : PySem.W.Frag) : TgN → TG
  | .one i => L2.gName i
  | .many is => L2.gTup K is.length (gNames is)
section
variable {G : Gx} {ρ : Wd} {H : Hp}
theorem RE.setNone {σs : En} {σ : St} (r : RE G ρ H σs σ) (i : Nat) : RE G ρ H (σs.set i none) (σ.set i none) := by
  refine ⟨by simp [r.len], fun j e hj => ?_⟩
  by_cases hij : i = j
  · subst hij
    by_cases hl : i < σs.length
    · rw [List.getElem?_set_self hl] at hj; cases hj
    · rw [List.getElem?_eq_none (by simpa using hl)] at hj; cases hj
  · rw [List.getElem?_set_ne hij] at hj ⊢
    exact r.get j e hj
theorem RE.wipe {σs : En} {σ : St} (r : RE G ρ H σs σ) : ∀ (vs : List Nat), RE G ρ H (wipeD σs vs) (L2.wipe σ vs)
  | [] => r
  | v :: vs => (RE.wipe r vs).setNone v
theorem names_go {Q : St → Hp → Prop} : ∀ {is : List Nat} {ds : List D} {xs : List V} {σs σ2 : En} {σ : St}, RVs G ρ H ds xs → RE G ρ H σs σ → setAll is ds σs = some σ2 → ∀ (vs : List Nat), (∀ i ∈ is, i ∈ vs) →
    (∀ σ', RE G ρ H σ2 σ' → L2.wipe σ' vs = L2.wipe σ vs → Q σ' H) → gNames is xs σ H Q
  | [], [], _, _, _, _, .nil, re, h, vs, _, k => by cases h; exact ⟨rfl, k _ re rfl⟩
  | i :: is, d :: ds, _, σs, σ2, σ, .cons r t, re, h, vs, hv, k => by
    refine ⟨_, _, rfl, ?_⟩
    show gNames is _ (σ.set i (some _)) H Q
    refine names_go t (re.set i r) h vs (fun j hj => hv j (by simp [hj])) fun σ' re' e => k σ' re' ?_
    rw [e, wipe_set, if_pos (hv i (by simp))]
  | [], _ :: _, _, _, _, _, _, _, h, _, _, _ => by cases h
  | _ :: _, [], _, _, _, _, _, _, h, _, _, _ => by cases h
theorem setAll_len : ∀ {is : List Nat} {ds : List D} {σs σ2 : En}, setAll is ds σs = some σ2 → ds.length = is.length
  | [], [], _, _, _ => rfl
  | _ :: is, _ :: ds, _, _, h => by simp [setAll_len (is := is) (ds := ds) h]
  | [], _ :: _, _, _, h => by cases h
  | _ :: _, [], _, _, h => by cases h
theorem put_go {Q : St → Hp → Prop} {K : PySem.W.Frag} {t : TgN} {d : D} {x : V} {σs σ2 : En} {σ : St} (rv : RV G ρ H d x) (re : RE G ρ H σs σ) (h : t.put d σs = some σ2) (vs : List Nat) (hv : ∀ i ∈ t.slots, i ∈ vs)
    (k : ∀ σ', RE G ρ H σ2 σ' → L2.wipe σ' vs = L2.wipe σ vs → Q σ' H) : t.tg K x σ H Q := by
  cases t with
  | one i =>
    cases h
    refine k _ (re.set i rv) ?_
    rw [wipe_set, if_pos (hv i (by simp [TgN.slots]))]
  | many is =>
    cases rv with
    | @tup ds a xs ht hr =>
      have h' : setAll is ds σs = some σ2 := h
      exact ⟨a, xs, rfl, SqT.of ht, by rw [← hr.length]; exact setAll_len h', names_go hr re h' vs hv k⟩
    | _ => cases h
end
def lcGo (src : Src) (t : TgN) (mt : MT) (me : ME) (σ : En) : Nat → Nat → List D → Store → Res (List D)
  | 0, _, _, _ => .bad
  | n + 1, k, acc, S => match src k S with
    | none => .bad
    | some none => .ok acc S
    | some (some d) => (match t.put d σ with
      | none => .bad
      | some σ2 => (match mt σ2 S with
        | .ok true S1 => (match me σ2 S1 with
          | .ok y S2 => if acc.length < lim then lcGo src t mt me σ n (k + 1) (acc ++ [y]) S2 else .bad
          | _ => .bad)
        | .ok false S1 => lcGo src t mt me σ n (k + 1) acc S1
        | _ => .bad))
/-- the list as a value that nobody changes, as one that is changed later -/
def eLcV (mi : MI) (t : TgN) (mt : MT) (me : ME) (vs : List Nat) (n : Nat) : ME := fun σ S => (mi σ S).bind fun src S1 => (lcGo src t mt me (wipeD σ vs) n 0 [] S1).bind fun ds S2 => .ok (.lv ds) S2
def tYesM : MT := fun _ S => .ok true S
abbrev W0 : WX := fun _ _ _ _ => False
section
variable {G : Gx} {X : Cx} {W : WX}
theorem cc_blk (cc : Cc G X W) {s : Shared} {H : Hp} {scope : Scope} {cenv : Env} {fp : List Addr} : Cc G (X.blk s H scope cenv fp) W0 := ⟨cc.k, takes0, PassesOwn.never, cc.calm, cc.nd⟩
theorem sts_nil : PTs X [] (tmt G W tYesM) := ⟨fun pins s σ H Q I ⟨ρ, σs, S, rl, re, p⟩ => (pts_nil).run pins s σ H Q I (p ρ H true Le.refl rl rfl)⟩
theorem sts_one {c : Expr} {t : MT} (h : ST G X W c t) : PTs X [c] (tmt G W t) := pts_one h
theorem Mv.unhide {ρ : Wd} {a : Addr} {H : Hp} : Mv G ⟨ρ.v, a :: ρ.h⟩ H ρ H :=
  ⟨fun _ _ h => h, fun _ _ _ h => h, fun _ _ n h => ⟨⟨n.1, fun z => n.2 (List.mem_cons_of_mem _ z)⟩, h⟩, fun _ _ n _ h => ⟨⟨n.1, fun z => n.2 (List.mem_cons_of_mem _ z)⟩, h⟩⟩
theorem Mv.hide {ρ : Wd} {a : Addr} {H : Hp} {u : HO} (hn : H a = none) : Mv G ρ H ⟨ρ.v, a :: ρ.h⟩ (L2.upd H a u) := by
  have ne : ∀ b, H b ≠ none → b ≠ a := fun b hb z => hb (by rw [z]; exact hn)
  refine ⟨fun _ _ h => h, tk_new hn, fun b xs n h => ?_, fun b v n _ h => ?_⟩
  · have hb := ne b (by rw [h]; simp)
    exact ⟨⟨n.1, by simp [hb, n.2]⟩, by rw [upd_ne hb]; exact h⟩
  · have hb := ne b (rd_some h)
    exact ⟨⟨n.1, by simp [hb, n.2]⟩, rd_new hn h⟩
theorem Rl.unhide {ρ : Wd} {a : Addr} {S : Store} {H : Hp} (r : Rl G ⟨ρ.v, a :: ρ.h⟩ S H) : Rl G ρ S H :=
  ⟨r.len, r.nd, fun b hb => r.hh b (List.mem_cons_of_mem _ hb), fun i o e => let ⟨b, u, h1, h2, h3⟩ := r.ob i o e; ⟨b, u, h1, h2, h3.move Mv.unhide⟩, r.tb⟩
theorem Rl.hide {ρ : Wd} {a : Addr} {S : Store} {H : Hp} {u : HO} (r : Rl G ρ S H) (hn : H a = none) (nu : NTb u := by trivial) : Rl G ⟨ρ.v, a :: ρ.h⟩ S (L2.upd H a u) := by
  have r1 := r.other (o := u) hn
  refine ⟨r.len, r.nd, fun b hb => ?_, fun i o e => ?_, r1.tb⟩
  · rcases List.mem_cons.mp hb with rfl | hb
    · exact ⟨(r.no hn).1, by rw [upd_same]; exact nu⟩
    · exact r1.hh b hb
  · obtain ⟨b, w, h1, h2, h3⟩ := r.ob i o e
    exact ⟨b, w, h1, by rw [upd_ne (ne_of_none h2 hn)]; exact h2, h3.move (Mv.hide hn)⟩
/-- the hidden thing is changed: values stand -/
theorem Mv.grow {ρ : Wd} {a : Addr} {H : Hp} {u w : HO} (hw : H a = some w) (nt : NoT w) (hm : a ∈ ρ.h) : Mv G ρ H ρ (L2.upd H a u) := by
  refine ⟨fun _ _ h => h, tk_upd hw nt, fun b xs n h => ⟨n, ?_⟩, fun b v n _ h => ⟨n, ?_⟩⟩
  · rw [upd_ne (show b ≠ a from fun z => n.2 (by rw [z]; exact hm))]
    exact h
  · have hb : b ≠ a := fun z => n.2 (by rw [z]; exact hm)
    rcases h with h | ⟨o, h⟩
    · exact .inl (by rw [upd_ne hb]; exact h)
    · exact .inr ⟨o, by rw [upd_ne hb]; exact h⟩
theorem Rl.grow {ρ : Wd} {a : Addr} {S : Store} {H : Hp} {u w : HO} (r : Rl G ρ S H) (hw : H a = some w) (nt : NoT w) (hm : a ∈ ρ.h) (nu : NTb u := by trivial) : Rl G ρ S (L2.upd H a u) := by
  refine ⟨r.len, r.nd, fun b hb => ⟨(r.hh b hb).1, ?_⟩, fun i o e => ?_, tabs_upd r.tb hw nt.noE⟩
  · by_cases hba : b = a
    · subst hba; rw [upd_same]; exact nu
    · rw [upd_ne hba]; exact (r.hh b hb).2
  · obtain ⟨b, v, h1, h2, h3⟩ := r.ob i o e
    refine ⟨b, v, h1, ?_, h3.move (Mv.grow hw nt hm)⟩
    rw [upd_ne (show b ≠ a from fun z => (r.hh a hm).1 (by rw [← z]; exact List.mem_of_getElem? h1))]
    exact h2
/-- a new thing at a is hidden -/
theorem Le.hide {ρ : Wd} {a : Addr} {H : Hp} {u : HO} (hn : H a = none) {ρ' : Wd} {H' : Hp} (hh : ∀ b, b ∈ ρ.h → H b ≠ none) (l : Le G ⟨ρ.v, a :: ρ.h⟩ (L2.upd H a u) ρ' H') : Le G ρ H ⟨ρ'.v, ρ.h⟩ H' := by
  have e : ρ'.h = a :: ρ.h := l.hid
  have ne : ∀ b, H b ≠ none → b ≠ a := fun b hb z => hb (by rw [z]; exact hn)
  refine ⟨l.pre, rfl, fun b xs t h => l.tk b xs t (by rw [upd_ne (ne b (by rw [h]; simp))]; exact h), fun b xs nb h => ?_, fun b v nb dk h => ?_, fun b nb h => ?_, fun b hb h => ?_, fun b o v h => l.kz b o v (by rw [upd_ne (ne b (by rw [h]; simp))]; exact h)⟩
  · have hb := ne b (by rw [h]; simp)
    exact l.kl b xs ⟨nb.1, by simp [hb, nb.2]⟩ (by rw [upd_ne hb]; exact h)
  · have hb := ne b (rd_some h)
    exact l.kp b v ⟨nb.1, by simp [hb, nb.2]⟩ dk (rd_new hn h)
  · have hb := ne b h.ne
    obtain ⟨h1, h2⟩ := l.ni b ⟨nb.1, by simp [hb, nb.2]⟩ (by rw [upd_ne hb]; exact h)
    exact ⟨⟨h1.1, nb.2⟩, h2⟩
  · have hb' := ne b h
    rw [l.kh b (List.mem_cons_of_mem _ hb) (by rw [upd_ne hb']; exact h), upd_ne hb']
/-- the hidden thing is changed -/
theorem Le.grow {ρ : Wd} {a : Addr} {H : Hp} {u u' : HO} (hn : H a = none) {ρ' : Wd} {H' : Hp} {w : HO} (hw : H' a = some w) (nt : NoT w) (nv : a ∉ ρ'.v) (l : Le G ⟨ρ.v, a :: ρ.h⟩ (L2.upd H a u) ρ' H') : Le G ⟨ρ.v, a :: ρ.h⟩ (L2.upd H a u') ρ' (L2.upd H' a u') := by
  have e : ρ'.h = a :: ρ.h := l.hid
  have up : ∀ b, b ≠ a → L2.upd H a u' b = L2.upd H a u b := fun b hb => by rw [upd_ne hb, upd_ne hb]
  have nn : ∀ b, (⟨ρ.v, a :: ρ.h⟩ : Wd).no b → b ≠ a := fun b nb z => nb.2 (by rw [z]; exact List.mem_cons_self)
  refine ⟨l.pre, l.hid, fun b xs t h => ?_, fun b xs nb h => ?_, fun b v nb dk h => ?_, fun b nb h => ?_, fun b hb h => ?_, fun b o v h => ?_⟩
  · by_cases hb : b = a
    · subst hb
      rw [upd_same] at h
      rw [upd_same]
      exact h
    · rw [up b hb] at h
      rw [upd_ne hb]
      exact l.tk b xs t h
  · rw [up b (nn b nb)] at h
    rw [upd_ne (nn b nb)]
    exact l.kl b xs nb h
  · have hb := nn b nb
    have h' : Rd (L2.upd H a u) b v := by
      rcases h with h | ⟨o, h⟩
      · exact .inl (by rw [← up b hb]; exact h)
      · exact .inr ⟨o, by rw [← up b hb]; exact h⟩
    rcases l.kp b v nb dk h' with h | ⟨o, h⟩
    · exact .inl (by rw [upd_ne hb]; exact h)
    · exact .inr ⟨o, by rw [upd_ne hb]; exact h⟩
  · have hb := nn b nb
    rw [up b hb] at h
    obtain ⟨h1, h2⟩ := l.ni b nb h
    exact ⟨h1, by rw [upd_ne hb]; exact h2⟩
  · by_cases hba : b = a
    · subst hba
      rw [upd_same, upd_same]
    · rw [up b hba] at h
      rw [upd_ne hba, up b hba]
      exact l.kh b hb h
  · by_cases hba : b = a
    · subst hba
      rw [upd_same] at h
      rw [upd_same]
      exact h
    · rw [up b hba] at h
      rw [upd_ne hba]
      exact l.kz b o v h
/-- a comprehension's loop: its own list at Dl is hidden while it grows -/
theorem lc_read {mi : MI} {t : TgN} {mt : MT} {me : ME} {vs : List Nat} {n : Nat} {K : PySem.W.Frag} (hv : ∀ i ∈ t.slots, i ∈ vs) {σ : St} {H : Hp} {Q : VK} {ρ : Wd} {σs : En} {S : Store} (fin : List D → Store → Res D) (rl : Rl G ρ S H) (re : RE G ρ H σs σ)
    (hf : ∀ (ρ' : Wd) (H' : Hp) (S' : Store) (ds : List D) (xs : List V) (Dl : Addr), Rl G ρ' S' H' → H' Dl = some (.lst xs) → ρ'.no Dl → RVs G ρ' H' ds xs → Post G ρ' H' (fin ds S') Q (EW W σ) → Q (.ref Dl) H')
    (p : Post G ρ H ((mi σs S).bind fun src S1 => (lcGo src t mt me (wipeD σs vs) n 0 [] S1).bind fin) Q (EW W σ)) :
    tLc (tmi G W mi) (t.tg K) (tmt G W0 mt) (tm G W0 me) vs σ H Q := by
  refine ⟨ρ, σs, S, rl, re, PostR.bind (R := JR G) p fun ρ1 H1 S1 src J l1 rl1 jr p1 => ?_⟩
  intro Dl hD
  have re1 := re.mono l1
  -- what stands at each turn
  refine ⟨fun i m H => ∃ ρ S acc xs, Le G ⟨ρ1.v, Dl :: ρ1.h⟩ (L2.upd H1 Dl (.lst xs)) ρ H ∧ Rl G ρ S H ∧ H Dl = some (.lst xs) ∧ RVs G ρ H acc xs ∧ Post G ρ1 H1 ((lcGo src t mt me (wipeD σs vs) m i acc S).bind fin) Q (EW W σ),
    ⟨n, ⟨ρ1.v, Dl :: ρ1.h⟩, S1, [], [], Le.refl, rl1.hide hD, upd_same, .nil, p1⟩, ?_⟩
  rintro i m H2 ⟨ρ2, S2, acc, xs, l3, rl2, hDl, ra, p2⟩
  have hid : ρ2.h = Dl :: ρ1.h := l3.hid
  have hh1 : ∀ b, b ∈ ρ1.h → H1 b ≠ none := fun b hb => (rl1.hh b hb).2.ne
  have lo : Le G ρ1 H1 ⟨ρ2.v, ρ1.h⟩ H2 := Le.hide hD hh1 l3
  have e2 : ρ2 = ⟨ρ2.v, Dl :: ρ1.h⟩ := by rw [← hid]
  have rlo : Rl G ⟨ρ2.v, ρ1.h⟩ S2 H2 := by rw [e2] at rl2; exact Rl.unhide (ρ := ⟨ρ2.v, ρ1.h⟩) rl2
  have nDv : Dl ∉ ρ2.v := (rl2.hh Dl (by rw [hid]; simp)).1
  have nDh : Dl ∉ ρ1.h := fun z => hh1 Dl z hD
  cases m with
  | zero => exact False.elim p2
  | succ m =>
    obtain ⟨j1, j2⟩ := jr ρ2 S2 H2 ((Mv.hide hD).trans l3.mv) (fun a o u q => l3.kz a o u (by rw [upd_ne (ne_of_none q hD)]; exact q)) rl2 i
    unfold lcGo at p2
    cases q : src i S2 with
    | none => simp only [q] at p2; exact False.elim p2
    | some o =>
      cases o with
      | none =>
        simp only [q] at p2
        refine .inl ⟨j2 q, hf ⟨ρ2.v, ρ1.h⟩ H2 S2 acc xs Dl rlo hDl ⟨nDv, nDh⟩ ?_ (PostR.le p2 lo)⟩
        rw [e2] at ra
        exact ra.move (Mv.unhide (ρ := ⟨ρ2.v, ρ1.h⟩))
      | some d =>
        simp only [q] at p2
        obtain ⟨go, yl⟩ := j1 d q
        refine .inr ⟨go, fun H => ∃ ρ S acc xs, Le G ⟨ρ1.v, Dl :: ρ1.h⟩ (L2.upd H1 Dl (.lst xs)) ρ H ∧ Rl G ρ S H ∧ H Dl = some (.lst xs) ∧ RVs G ρ H acc xs ∧ Post G ρ1 H1 ((lcGo src t mt me (wipeD σs vs) m (i + 1) acc S).bind fin) Q (EW W σ),
          fun H' w => ⟨m, Nat.lt_succ_self m, w⟩, fun x H3 hy => ?_⟩
        obtain ⟨l4, rl3, rv3⟩ := yl x H3 hy
        have mD : Dl ∈ ρ2.h := by rw [hid]; simp
        have hD3 : H3 Dl = some (.lst xs) := by rw [l4.kh Dl mD (by rw [hDl]; simp)]; exact hDl
        cases q1 : t.put d (wipeD σs vs) with
        | none => simp only [q1] at p2; exact False.elim p2
        | some σ2 =>
          simp only [q1] at p2
          have reh : RE G ρ2 H3 σs σ := (re1.move ((Mv.hide hD).trans l3.mv)).mono l4
          refine put_go rv3 (reh.wipe vs) q1 vs hv fun σ' re' e' => ⟨by rw [e', wipe_wipe], ρ2, σ2, S2, rl3, re', ?_⟩
          cases q2 : mt σ2 S2 with
          | exc xx S3 => simp only [q2] at p2; exact False.elim p2
          | bad => simp only [q2] at p2; exact False.elim p2
          | ok b S3 =>
            intro ρ4 H4 b' l5 rl4 eb
            subst eb
            have mD4 : Dl ∈ ρ4.h := by rw [l5.hid]; exact mD
            have hD4 : H4 Dl = some (.lst xs) := by rw [l5.kh Dl mD (by rw [hD3]; simp)]; exact hD3
            cases b with
            | false =>
              simp only [q2] at p2
              show if false = true then _ else _
              rw [if_neg Bool.false_ne_true]
              exact ⟨ρ4, S3, acc, xs, (l3.trans l4).trans l5, rl4, hD4, ra.mono (l4.trans l5), p2⟩
            | true =>
              simp only [q2] at p2
              show if true = true then _ else _
              rw [if_pos rfl]
              refine ⟨ρ4, σ2, S3, rl4, re'.mono l5, ?_⟩
              cases q3 : me σ2 S3 with
              | exc xx S4 => simp only [q3] at p2; exact False.elim p2
              | bad => simp only [q3] at p2; exact False.elim p2
              | ok y S4 =>
                simp only [q3] at p2
                intro ρ5 H5 yv l6 rl5 ry
                have mD5 : Dl ∈ ρ5.h := by rw [l6.hid]; exact mD4
                have hD5 : H5 Dl = some (.lst xs) := by rw [l6.kh Dl mD4 (by rw [hD4]; simp)]; exact hD4
                have nv5 : Dl ∉ ρ5.v := (rl5.hh Dl mD5).1
                by_cases hl : acc.length < lim
                · rw [if_pos hl] at p2
                  refine ⟨xs, hD5, by rw [← ra.length]; exact lim_lt hl, ρ5, S4, acc ++ [y], xs ++ [yv], ?_, rl5.grow hD5 trivial mD5, upd_same, ?_, p2⟩
                  · exact Le.grow hD hD5 trivial nv5 (((l3.trans l4).trans l5).trans l6)
                  · exact ((ra.mono ((l4.trans l5).trans l6)).append (.cons ry .nil)).move (Mv.grow hD5 trivial mD5)
                · rw [if_neg hl] at p2
                  exact False.elim p2
/-- [elt for t in iter if ..], nobody changes it -/
theorem se_lcv {elt tg iter : Expr} {ifs : List Expr} {scope : Scope} {own : List (Str × Nat)} {pos : Pos} {mi : MI} {t : TgN} {mt : MT} {me : ME} (n : Nat) (cc : Cc G X W) (hi : SI G X W tg iter mi) (ok : BlkOk X.N X.env.scope scope own) (hv : ∀ i ∈ t.slots, i ∈ own.map (·.2))
    (hg : ∀ (s : Shared) (H : Hp) (C : Addr) (cl : List (Str × Addr)) (fp : List Addr), PG (X.blk s H scope (compEnvC scope cl C X.env) fp) tg (t.tg X.K)) (ht : ∀ (s : Shared) (H : Hp) (C : Addr) (cl : List (Str × Addr)) (fp : List Addr), PTs (X.blk s H scope (compEnvC scope cl C X.env) fp) ifs (tmt G W0 mt))
    (he : ∀ (s : Shared) (H : Hp) (C : Addr) (cl : List (Str × Addr)) (fp : List Addr), SE G (X.blk s H scope (compEnvC scope cl C X.env) fp) W0 elt me) (hs : ∀ x, foldedSetIterable iter X.env x = pure x := by intro _; rfl) :
    SE G X W (.ListComp elt [⟨tg, iter, ifs, 0⟩] scope pos) (eLcV mi t mt me (own.map (·.2)) n) :=
  se_of (pe_lc cc.calm cc.nd hi ok hg ht he hs) fun σ H Q ρ σs S rl re p => lc_read hv (fun ds S2 => .ok (.lv ds) S2) rl re (fun ρ' H' S' ds xs Dl rl' h1 h2 h3 p' => post_ok (S := S') p' rl' (.lv h2 h1 h3)) p
end
end L2.Mi

set_option Elab.async false
set_option linter.all false
set_option maxRecDepth 100000
set_option maxHeartbeats 4000000
set_option Elab.async false
set_option linter.all false
set_option maxRecDepth 100000
set_option maxHeartbeats 4000000
namespace L2.Mi
open PySem PySem.Spec PyProof.Rows
abbrev Fg := PySem.W.Frag
theorem ba {a b : Bool} (h : (a && b) = true) : a = true ∧ b = true := Bool.and_eq_true_iff.mp h
/-- the value u is the constant d: tuples and lists by their items -/
def kvB (K : Fg) : Nat → D → Value → Bool
  | 0, _, _ => false
  | n + 1, d, u => match d, u with
    | .non, .none => true
    | .bl b, .bool c => b == c
    | .int i, .int j _ => decide (i = j)
    | .str x, .str y _ => decide (y.cps.toList = x)
    | .ty t, .type m => decide (t = m)
    | .kt ds, .ref a => (match K.lookup a with
      | some ⟨.type c, _, .seq its _, _⟩ => decide (c = "tuple") && (decide (its.size ≤ sizeLine) && (decide (ds.length = its.toList.length) && (ds.zip its.toList).all fun q => kvB K n q.1 q.2))
      | _ => false)
    | .fl ds, .ref a => (match K.lookup a with
      | some ⟨.type c, none, .seq its _, _⟩ => decide (c = "list") && (decide (its.size ≤ sizeLine) && (decide (ds.length = its.toList.length) && (ds.zip its.toList).all fun q => kvB K n q.1 q.2))
      | _ => false)
    | _, _ => false
section
variable {G : Gx}
theorem kv_all {P : D → Value → Prop} (h : ∀ d u, P d u → ∃ x, RelV x u ∧ ∀ ρ H, RV G ρ H d x) : ∀ {ds : List D} {us : List Value}, ds.length = us.length → (∀ q ∈ ds.zip us, P q.1 q.2) → ∃ xs, Vals xs us ∧ ∀ ρ H, RVs G ρ H ds xs
  | [], [], _, _ => ⟨[], .nil, fun _ _ => .nil⟩
  | [], _ :: _, e, _ => by cases e
  | _ :: _, [], e, _ => by cases e
  | d :: ds, u :: us, e, k => by
    obtain ⟨x, r1, r2⟩ := h d u (k (d, u) (by simp))
    obtain ⟨xs, s1, s2⟩ := kv_all (P := P) h (ds := ds) (us := us) (by simpa using e) fun q hq => k q (by simp [hq])
    exact ⟨x :: xs, .cons r1 s1, fun ρ H => .cons (r2 ρ H) (s2 ρ H)⟩
theorem kvB_ok : ∀ (n : Nat) (d : D) (u : Value), kvB G.K n d u = true → ∃ x, RelV x u ∧ ∀ ρ H, RV G ρ H d x
  | 0, _, _, h => by cases h
  | n + 1, d, u, h => by
    unfold kvB at h
    split at h
    · exact ⟨.non, rfl, fun _ _ => .non⟩
    · rename_i b c
      have e : b = c := eq_of_beq h
      subst e
      exact ⟨.bl b, rfl, fun _ _ => .bl b⟩
    · rename_i i j t
      have e : i = j := of_decide_eq_true h
      subst e
      exact ⟨.int i, ⟨t, rfl⟩, fun _ _ => .int i⟩
    · rename_i x y t
      have e : y.cps.toList = x := of_decide_eq_true h
      subst e
      exact ⟨.str y, ⟨t, rfl⟩, fun _ _ => rv_str y⟩
    · rename_i t m
      have e : t = m := of_decide_eq_true h
      subst e
      exact ⟨.ty t, rfl, fun _ _ => .ty t⟩
    · rename_i ds a
      split at h
      · rename_i c od its m sl q
        obtain ⟨h1, h⟩ := ba h
        obtain ⟨h2, h⟩ := ba h
        obtain ⟨h3, h4⟩ := ba h
        obtain ⟨xs, r1, r2⟩ := kv_all (G := G) (P := fun d u => kvB G.K n d u = true) (kvB_ok n) (of_decide_eq_true h3) fun q hq => List.all_eq_true.mp h4 q hq
        exact ⟨.ref a, rfl, fun ρ H => .kt (.inr ⟨_, its, m, q, congrArg Value.type (of_decide_eq_true h1), rfl, of_decide_eq_true h2, r1⟩) (r2 ρ H)⟩
      · cases h
    · rename_i ds a
      split at h
      · rename_i c its m sl q
        obtain ⟨h1, h⟩ := ba h
        obtain ⟨h2, h⟩ := ba h
        obtain ⟨h3, h4⟩ := ba h
        obtain ⟨xs, r1, r2⟩ := kv_all (G := G) (P := fun d u => kvB G.K n d u = true) (kvB_ok n) (of_decide_eq_true h3) fun q hq => List.all_eq_true.mp h4 q hq
        exact ⟨.ref a, rfl, fun ρ H => .fl (.inr (.inr ⟨_, its, m, q, congrArg Value.type (of_decide_eq_true h1), rfl, rfl, of_decide_eq_true h2, r1⟩)) (r2 ρ H)⟩
      · cases h
    · cases h
end
def pgA (K : Fg) (C : Str) (f : Str) : Addr := match PySem.W.recIn K (He.ma K (He.ga K C) f) "property" with
  | some (.ref g :: _) => g
  | _ => 0
def cgA (K : Fg) (C : Str) (f : Str) : Addr := match PySem.W.recIn K (He.ma K (He.ga K C) f) "classmethod" with
  | some (.ref g :: _) => g
  | _ => 0
inductive Pth where
  | g (x : Str) | m (C x : Str) | p (C x : Str) | c (C x : Str)
def Pth.ad (K : Fg) : Pth → Addr
  | .g x => He.ga K x
  | .m C x => He.ma K (He.ga K C) x
  | .p C x => pgA K C x
  | .c C x => cgA K C x
structure DefM where
  pth : Pth
  name : Str
  qual : Str
  st : Stmt
  dfl : List D := []
def DefM.val (d : DefM) : He.FnW := some (d.name, d.qual, defArgs d.st, .stmts (defBody d.st), defScope d.st, mainGlobals, [], builtinsNs)
def dfB (K : Fg) (dV : Value) (ds : List D) : Bool := match ds with
  | [] => (match dV with | .none => true | _ => false)
  | ds => (match dV with
    | .ref T => (match K.lookup T with
      | some ⟨_, _, .seq its _, _⟩ => decide (ds.length = its.toList.length) && (ds.zip its.toList).all fun q => kvB K 8 q.1 q.2
      | _ => false)
    | _ => false)
def DefM.ok (K : Fg) (d : DefM) : Bool := PySem.W.keepIn K (.ref (d.pth.ad K)) && (match K.lookup (d.pth.ad K) with
  | some ⟨_, _, .func fd, _⟩ => PySem.W.codeIn K fd.code d.qual && dfB K fd.defaults d.dfl
  | _ => false)
def fnM (K : Fg) (a : Addr) : He.FnW := match K.lookup a with
  | some ⟨_, _, .func fd, _⟩ => some (fd.name, fd.qualname, fd.params, fd.body, fd.scope, fd.globals, fd.closure, fd.builtins)
  | _ => none
theorem dfB_ok {G : Gx} {dV : Value} {ds : List D} (h : dfB G.K dV ds = true) : ∃ dvs, DflV G.K dV dvs ∧ ∀ ρ H, RVs G ρ H ds dvs := by
  unfold dfB at h
  split at h
  · split at h
    · exact ⟨[], .inl ⟨rfl, rfl⟩, fun _ _ => .nil⟩
    · cases h
  · rename_i hne
    split at h
    · rename_i T
      split at h
      · rename_i oc od its m sl q
        obtain ⟨h1, h2⟩ := ba h
        obtain ⟨xs, r1, r2⟩ := kv_all (G := G) (P := fun d u => kvB G.K 8 d u = true) (kvB_ok 8) (of_decide_eq_true h1) fun q hq => List.all_eq_true.mp h2 q hq
        refine ⟨xs, .inr ⟨fun e => ?_, T, _, its.toList, m, rfl, q, by simp, r1⟩, r2⟩
        subst e
        have z := (r2 ⟨[], []⟩ fun _ => none).length
        cases ds with
        | nil => exact hne rfl
        | cons _ _ => cases z
      · cases h
    · cases h
/-- a def as the walk takes it -/
structure FnM (G : Gx) (d : DefM) where
  fd : FuncData
  dvs : List V
  F : FunD G.K d.name d.qual (defArgs d.st) (defBody d.st) (defScope d.st) dvs [] (d.pth.ad G.K) fd
  rd : ∀ ρ H, RVs G ρ H d.dfl dvs
theorem fnM_ok {G : Gx} {d : DefM} (e : fnM G.K (d.pth.ad G.K) = d.val) (c : d.ok G.K = true) : Nonempty (FnM G d) := by
  obtain ⟨kp, c2⟩ := ba c
  unfold fnM at e
  cases q : G.K.lookup (d.pth.ad G.K) with
  | none => rw [q] at c2; cases c2
  | some o =>
    obtain ⟨oc, od, dt, osl⟩ := o
    rw [q] at c2 e
    cases dt with
    | func fd =>
      obtain ⟨n1, n2, n3, n4, n5, n6, n7, n8, n9, n10, n11, n12, n13, n14, n15⟩ := fd
      have e2 : (some (n1, n2, n3, n4, n5, n6, n7, n15) : He.FnW) = some (d.name, d.qual, defArgs d.st, .stmts (defBody d.st), defScope d.st, mainGlobals, [], builtinsNs) := e
      simp only [Option.some.injEq, Prod.mk.injEq] at e2
      obtain ⟨h1, h2, h3, h4, h5, h6, h7, h8⟩ := e2
      subst h1 h2 h3 h4 h5 h6 h7 h8
      obtain ⟨k1, k2⟩ := ba (show (PySem.W.codeIn G.K n13 d.qual && dfB G.K n8 d.dfl) = true from c2)
      obtain ⟨dvs, k3, k4⟩ := dfB_ok k2
      exact ⟨⟨_, dvs, ⟨⟨oc, od, n8, n9, n10, n11, n12, n13, n14, osl, rfl, q, k1, k3, .inl rfl⟩, kp⟩, k4⟩⟩
    | _ => cases c2
/-- between n less the defaults and n arguments -/
def callD (n : Nat) (dfl : List D) (m : FN) : FN := fun xs S => if xs.length ≤ n ∧ n ≤ xs.length + dfl.length then m (xs ++ dfl.drop (dfl.length + xs.length - n)) S else .bad
theorem RVs.drop {G : Gx} {ρ : Wd} {H : Hp} : ∀ (n : Nat) {ds : List D} {xs : List V}, RVs G ρ H ds xs → RVs G ρ H (ds.drop n) (xs.drop n)
  | 0, _, _, r => r
  | _ + 1, _, _, .nil => .nil
  | n + 1, _, _, .cons _ t => RVs.drop n t
theorem cal_defD {G : Gx} {P : Program} {w : World} {mg : Str → Option Value} {base : Heap} {k : Nat} {f : Addr} {fd : FuncData} {ps : List Str} {m : FN} {n : Nat} {dvs : List V} {dfl : List D}
    (F : FnOk P w G.K mg base (L2.CX P w) k f fd ps (spF G m n)) (hn : n = ps.length) (hb : ∀ j, j ≤ dvs.length → ∃ ds, Vals (dvs.drop j) ds ∧ Binds G.K fd ps ds) (hdd : ∀ ρ H, RVs G ρ H dfl dvs) : Cal G P w mg base k f (callD n dfl m) := by
  intro A outer s H us vs Q E hr e0 r h
  obtain ⟨ρ, S, es, rl, rv, p⟩ := h
  unfold callD at p
  by_cases hl : es.length ≤ n ∧ n ≤ es.length + dfl.length
  · rw [if_pos hl] at p
    have hle := (hdd ρ H).length
    obtain ⟨ds, hd, hbi⟩ := hb (dfl.length + es.length - n) (by omega)
    have hlen : vs.length + (dvs.drop (dfl.length + es.length - n)).length = n := by rw [← rv.length, List.length_drop]; omega
    have KX : G.K.In s.heap := e0.mod.kin.keeps fun b o e => (e0.bs b o e).1
    refine F.run A outer s H ⟨us, []⟩ (us ++ ds) (vs ++ dvs.drop (dfl.length + es.length - n)) Q E hr e0 (hbi s us KX ?_) (r.append hd) ⟨ρ, S, _, ?_, rl, rv.append ((hdd ρ H).drop _), p⟩
    · rw [List.length_append, ← r.length, ← hd.length, ← hn]; exact hlen
    · rw [List.length_append]; exact hlen
  · rw [if_neg hl] at p
    exact p.elim
inductive Fm where
  | glo (x : Str) | free (x : Str) | con (x : Str) (d : D)
  | cls (C : Str) | noat (C f : Str) | meth (C m : Str) | mkr (C : Str) | prop (C f : Str)
  | bin (C : Str) (o : Operator) | un (C m : Str) | ne (C : Str) | callo (C : Str)
  | oex (C : Str) | exm (A B : Str) (b : Bool)
  | raw (p : Fg → Bool)
/-- an own class over ValueError, with a dict -/
def oexO (K : Fg) (C : Addr) : Bool := match K.lookup C with
  | some ⟨.type t, _, .cls cd, sl⟩ => (match cd.mro, sl.toList with
    | .ref C' :: bm, [_, _, _, _, some (.builtin n), _] => decide (t = "type") && (decide (C' = C) && (decide (n = "ValueError.__new__") && (!cd.hasDel && (cd.hasDict && PySem.HandSPX.refsVE bm))))
    | _, _ => false)
  | _ => false
def clB (K : Fg) (C : Addr) : Bool := PySem.W.plainGet K C Str.empty && (PySem.W.hasDictIn K C && (PySem.W.plainOver K C && (He.eqO (PySem.W.findIn K (.ref C) "__setattr__") (some (some (.builtin "object.__setattr__"))) &&
  (He.eqO (PySem.W.findIn K (.ref C) "__class__") (some (some (.builtin "object.__class__"))) && (He.eqO (PySem.W.specialIn K (.builtin "object.__class__") "__get__") (some (some (.builtin "getset_descriptor.__get__"))) &&
  (decide (PySem.W.takesIn K (.builtin "object.__class__") = some true) && decide (PySem.W.mroIn K C (.type "object") = some true)))))))
theorem clB_ok {K : Fg} {C : Addr} (h : clB K C = true) : CI K C := by
  obtain ⟨h1, h⟩ := ba h
  obtain ⟨h2, h⟩ := ba h
  obtain ⟨h3, h⟩ := ba h
  obtain ⟨h4, h⟩ := ba h
  obtain ⟨h5, h⟩ := ba h
  obtain ⟨h6, h⟩ := ba h
  obtain ⟨h7, h8⟩ := ba h
  exact ⟨⟨h1, h2, h3, He.eqO_ok h4⟩, He.eqO_ok h5, He.eqO_ok h6, of_decide_eq_true h7, of_decide_eq_true h8⟩
def fnAt (K : Fg) (C : Addr) (m : Str) : Bool := He.eqO (PySem.W.findIn K (.ref C) m) (some (some (.ref (He.ma K C m)))) && PySem.W.isFn K (.ref (He.ma K C m))
theorem fnAt_ok {K : Fg} {C : Addr} {m : Str} (h : fnAt K C m = true) : PySem.W.findIn K (.ref C) m = some (some (.ref (He.ma K C m))) ∧ PySem.W.isFn K (.ref (He.ma K C m)) = true := by
  obtain ⟨h1, h2⟩ := ba h
  exact ⟨He.eqO_ok h1, h2⟩
def refNone : Option (Option Value) → Bool
  | some none => true
  | some (some (.ref _)) => true
  | _ => false
theorem refNone_ok {o : Option (Option Value)} (h : refNone o = true) : ∃ rc, o = some rc ∧ (rc = none ∨ ∃ g : Addr, rc = some (.ref g)) := by
  unfold refNone at h
  split at h
  · exact ⟨_, rfl, .inl rfl⟩
  · exact ⟨_, rfl, .inr ⟨_, rfl⟩⟩
  · cases h
def Fm.ok (K : Fg) : Fm → Bool
  | .glo x => He.eqO (PySem.W.nsIn K mainGlobals x) (some (some (.ref (He.ga K x)))) && PySem.W.keepIn K (.ref (He.ga K x))
  | .free x => He.eqO (PySem.W.nsIn K mainGlobals x) (some none)
  | .con x d => (match PySem.W.nsIn K mainGlobals x with | some (some u) => kvB K 8 d u | _ => false)
  | .cls C => clB K (He.ga K C)
  | .noat C f => He.eqO (PySem.W.findIn K (.ref (He.ga K C)) f) (some none)
  | .meth C m => fnAt K (He.ga K C) m && PySem.W.keepIn K (.ref (He.ma K (He.ga K C) m))
  | .mkr C => PySem.W.makesIn K (He.ga K C) && (fnAt K (He.ga K C) "__init__" && PySem.W.keepIn K (.ref (He.ga K C)))
  | .prop C f => He.eqO (PySem.W.findIn K (.ref (He.ga K C)) f) (some (some (.ref (He.ma K (He.ga K C) f)))) && (He.eqO (PySem.W.specialIn K (.ref (He.ma K (He.ga K C) f)) "__get__") (some (some (.builtin "property.__get__"))) &&
    (decide (PySem.W.takesIn K (.ref (He.ma K (He.ga K C) f)) = some true) && (match PySem.W.recIn K (He.ma K (He.ga K C) f) "property" with | some (.ref _ :: _) => true | _ => false)))
  | .bin C o => PySem.W.selfFirst K (He.ga K C) && (fnAt K (He.ga K C) (PySem.dunder o.info.2) && (refNone (PySem.W.findIn K (.ref (He.ga K C)) (dunderR o.info.2)) && ((PySem.W.findIn K (.type "int") (PySem.dunder o.info.2)).isSome &&
    ((PySem.W.findIn K (.type "int") (dunderR o.info.2)).isSome && decide (PySem.W.subIn K (.type "int") (.ref (He.ga K C)) = some false)))))
  | .un C m => fnAt K (He.ga K C) m
  | .ne C => He.eqO (PySem.W.findIn K (.ref (He.ga K C)) "__ne__") (some (some (.builtin "object.__ne__"))) && fnAt K (He.ga K C) "__eq__"
  | .callo C => fnAt K (He.ga K C) "__call__" && PySem.W.fnIn K (He.ma K (He.ga K C) "__call__")
  | .oex C => oexO K (He.ga K C) && (He.eqO (PySem.W.findIn K (.ref (He.ga K C)) "__setattr__") (some (some (.builtin "object.__setattr__"))) && (decide (PySem.W.subIn K (.ref (He.ga K C)) (.type "BaseException") = some true) &&
    (decide (PySem.W.typeIn K (.ref (He.ga K C)) = some (.type "type")) && (PySem.W.keepIn K (.ref (He.ga K C)) && (fnAt K (He.ga K C) "__init__" && xfB K (He.ga K C))))))
  | .raw p => p K
  | .exm A B b => decide (PySem.W.exmOne K (.ref (He.ga K A)) (.ref (He.ga K B)) = some b)
structure Lw where
  cls : List Str
  flds : List Str
  isi : List (Tag × Tag × Bool)
  xcl : List Str
  defs : List DefM
  fa : List Fm
  /-- the def whose table of code objects grows, and its code objects' name -/
  tab : Option (Str × Str) := none
  /-- the law's lambdas -/
  lams : List (Str × Arguments × Expr × Scope) := []
  fok : (decide flds.Nodup && flds.all fun x => decide (x.cps.size ≠ 1) || x.cps.all fun c => decide (c < 2000000)) = true
def fldOf (l : List Str) (i : Nat) : Str := match l[i]? with | some x => x | none => ⟨#[2000000 + i]⟩
theorem fldOf_inj {l : List Str} (h : (decide l.Nodup && l.all fun x => decide (x.cps.size ≠ 1) || x.cps.all fun c => decide (c < 2000000)) = true) (i j : Nat) (e : fldOf l i = fldOf l j) : i = j := by
  obtain ⟨h1, h2⟩ := ba h
  have nd : l.Nodup := of_decide_eq_true h1
  have odd : ∀ x ∈ l, ∀ k, x ≠ ⟨#[2000000 + k]⟩ := fun x hx k ex => by
    have z := List.all_eq_true.mp h2 x hx
    rw [ex] at z
    simp at z
    omega
  unfold fldOf at e
  cases q : l[i]? with
  | some x =>
    cases q2 : l[j]? with
    | some y =>
      rw [q, q2] at e
      have e' : x = y := e
      subst e'
      obtain ⟨a1, e1⟩ := List.getElem?_eq_some_iff.mp q
      obtain ⟨a2, e2⟩ := List.getElem?_eq_some_iff.mp q2
      have pw := List.pairwise_iff_getElem.mp nd
      rcases Nat.lt_trichotomy i j with h | h | h
      · exact absurd (e1.trans e2.symm) (pw i j a1 a2 h)
      · exact h
      · exact absurd (e2.trans e1.symm) (pw j i a2 a1 h)
    | none =>
      rw [q, q2] at e
      exact absurd e (odd x (List.mem_of_getElem? q) j)
  | none =>
    cases q2 : l[j]? with
    | some y =>
      rw [q, q2] at e
      exact absurd e.symm (odd y (List.mem_of_getElem? q2) i)
    | none =>
      rw [q, q2] at e
      have e' : (⟨#[2000000 + i]⟩ : Str) = ⟨#[2000000 + j]⟩ := e
      simp at e'
      exact e'
def Lw.clsA (L : Lw) (K : Fg) (c : Nat) : Option Addr := (L.cls[c]?).map (He.ga K)
def Lw.isiF (L : Lw) (t u : Tag) : Option Bool := (L.isi.find? fun q => q.1 == t && q.2.1 == u).map (·.2.2)
def Lw.isiB (L : Lw) (K : Fg) : Bool := L.isi.all fun q => match tagVal (L.clsA K) q.1, tagVal (L.clsA K) q.2.1 with
  | some a, some b => decide (PySem.W.kitOne K a b = some q.2.2)
  | _, _ => true
def Lw.ex (L : Lw) (K : Fg) : Bool := (L.fa.all fun f => f.ok K) && (L.isiB K && ((L.cls.all fun x => clB K (He.ga K x)) && L.defs.all fun d => d.ok K))
abbrev AlM : Type := Bool × List He.FnW
def Lw.obs (L : Lw) (K : Fg) : AlM := (L.ex K, L.defs.map fun d => fnM K (d.pth.ad K))
def Lw.vl (L : Lw) : AlM := (true, L.defs.map DefM.val)
def Lw.Says (L : Lw) (K : Fg) : Prop := L.obs K = L.vl
/-- what is looked at: all but the table that grows -/
def Lw.asL (L : Lw) (n : Nat) (g : Addr → Option Obj) : List Addr := match L.tab with
  | none => He5.asA g n
  | some p => match PySem.W.tabIn (He.frG g (He5.asA g n)) p.1 with
    | some q => (He5.asA g n).filter fun a => !(a == q.2)
    | none => He5.asA g n
def Lw.obsG (L : Lw) (n : Nat) (g : Addr → Option Obj) : AlM := L.obs (He.frG g (L.asL n g))
def Lw.hook (L : Lw) (n : Nat) : PySem.W.Hook where
  α := AlM
  obs := fun s => L.obsG n s.heap.get?
  val := fun _ => L.vl
  says := fun _ h => ∃ K : Fg, K.In h ∧ L.Says K
  of := fun _ _ e => ⟨_, He.frG_in, e⟩
  keeps := fun _ _ _ ⟨K, hK, c⟩ k => ⟨K, PySem.W.Frag.In.keeps hK k, c⟩
theorem Lw.obsG_eq {L : Lw} {n : Nat} {g : Addr → Option Obj} {s : Shared} (h : ∀ a, g a = s.heap.get? a) : L.obsG n g = (L.hook n).obs s := by
  have e : g = s.heap.get? := funext h
  rw [e] <;> rfl
section
variable {L : Lw} {K : Fg}
theorem Lw.Says.all (c : L.Says K) : L.ex K = true := congrArg (fun z : AlM => z.1) c
theorem Lw.Says.fact (c : L.Says K) (i : Nat) {f : Fm} (h : L.fa[i]? = some f) : f.ok K = true := List.all_eq_true.mp (ba c.all).1 f (List.mem_of_getElem? h)
theorem Lw.Says.ci (c : L.Says K) (i : Nat) (C : Addr) (h : L.clsA K i = some C) : CI K C := by
  unfold Lw.clsA at h
  cases q : L.cls[i]? with
  | none => rw [q] at h; cases h
  | some x =>
    rw [q] at h
    cases h
    exact clB_ok (List.all_eq_true.mp (ba (ba (ba c.all).2).2).1 x (List.mem_of_getElem? q))
theorem Lw.Says.isi (c : L.Says K) (t u : Tag) (b : Bool) (tv uv : Value) (h : L.isiF t u = some b) (h1 : tagVal (L.clsA K) t = some tv) (h2 : tagVal (L.clsA K) u = some uv) : PySem.W.kitOne K tv uv = some b := by
  unfold Lw.isiF at h
  cases q : L.isi.find? fun q => q.1 == t && q.2.1 == u with
  | none => rw [q] at h; cases h
  | some z =>
    rw [q] at h
    have hb : z.2.2 = b := by simpa using h
    have hz := List.find?_some q
    have hm := List.mem_of_find?_eq_some q
    obtain ⟨e1, e2⟩ := ba hz
    have e1 := eq_of_beq e1
    have e2 := eq_of_beq e2
    have hk := List.all_eq_true.mp (ba (ba c.all).2).1 z hm
    rw [e1, e2, h1, h2] at hk
    rw [of_decide_eq_true hk, hb]
/-- the tables -/
def Lw.tabsA (L : Lw) (K : Fg) : List (Addr × Str) := match L.tab with
  | none => []
  | some p => match PySem.W.tabIn K p.1 with
    | some q => [(q.2, p.2)]
    | none => []
def Lw.gx (L : Lw) (K : Fg) (c : L.Says K) : Gx where
  K := K
  tabs := L.tabsA K
  fns := fun i => (L.defs[i]?).map fun d => d.pth.ad K
  lams := fun i => L.lams[i]?
  cls := L.clsA K
  fld := fldOf L.flds
  inj := fldOf_inj L.fok
  clsv := fun i => (L.xcl[i]?).map fun C => .ref (He.ga K C)
  ci := c.ci
  isi := L.isiF
  isi_ok := c.isi
theorem Lw.Says.fn (c : L.Says K) (i : Nat) {d : DefM} (h : L.defs[i]? = some d) : Nonempty (FnM (L.gx K c) d) := by
  have e : L.defs.map (fun d => fnM K (d.pth.ad K)) = L.defs.map DefM.val := congrArg (fun z : AlM => z.2) c
  have e2 : (L.defs.map fun d => fnM K (d.pth.ad K))[i]? = (L.defs.map DefM.val)[i]? := by rw [e]
  rw [List.getElem?_map, List.getElem?_map, h] at e2
  exact fnM_ok (G := L.gx K c) (Option.some.inj e2) (List.all_eq_true.mp (ba (ba (ba c.all).2).2).2 d (List.mem_of_getElem? h))
end
end L2.Mi

set_option Elab.async false
set_option linter.all false
set_option maxRecDepth 100000
set_option maxHeartbeats 4000000
namespace L2.Mi
open PySem PySem.Spec PyProof.Rows
def lv : Nat → Nat
  | 0 => 2
  | n + 1 => lv n + 2
theorem lv_eq : ∀ n, lv n = 2 * n + 2
  | 0 => rfl
  | n + 1 => by unfold lv; rw [lv_eq n]; omega
/-- the module's names -/
def Ns (K : Fg) (mg : Str → Option Value) : Prop := ∃ h : Heap, K.In h ∧ h.Ns mainGlobals mg
section
variable {L : Lw} {K : Fg} {c : L.Says K} {mg : Str → Option Value} {x C f m : Str}
theorem Ns.glo (N : Ns K mg) (c : L.Says K) (i : Nat) (h : L.fa[i]? = some (.glo x) := by rfl) : mg x = some (.ref (He.ga K x)) := by
  obtain ⟨hp, kin, ns⟩ := N
  exact PySem.W.mg_of kin ns (He.eqO_ok (ba (c.fact i h)).1)
theorem keep_of (c : L.Says K) (i : Nat) (h : L.fa[i]? = some (.glo x) := by rfl) : PySem.W.keepIn K (.ref (He.ga K x)) = true := (ba (c.fact i h)).2
theorem Ns.free (N : Ns K mg) (c : L.Says K) (i : Nat) (h : L.fa[i]? = some (.free x) := by rfl) : mg x = none := by
  obtain ⟨hp, kin, ns⟩ := N
  exact PySem.W.mg_none_of kin ns (He.eqO_ok (c.fact i h))
theorem Ns.con (N : Ns K mg) (c : L.Says K) (i : Nat) {d : D} (h : L.fa[i]? = some (.con x d)) : ∃ u v, mg x = some u ∧ RelV v u ∧ ∀ ρ H, RV (L.gx K c) ρ H d v := by
  obtain ⟨hp, kin, ns⟩ := N
  have z := c.fact i h
  have z' : (match PySem.W.nsIn K mainGlobals x with | some (some u) => kvB K 8 d u | _ => false) = true := z
  cases q : PySem.W.nsIn K mainGlobals x with
  | none => rw [q] at z'; cases z'
  | some o =>
    cases o with
    | none => rw [q] at z'; cases z'
    | some u =>
      rw [q] at z'
      obtain ⟨v, r1, r2⟩ := kvB_ok (G := L.gx K c) 8 d u z'
      exact ⟨u, v, PySem.W.mg_of kin ns q, r1, r2⟩
theorem cls_of (c : L.Says K) (ci : Nat) (hc : L.cls[ci]? = some C) : (L.gx K c).cls ci = some (He.ga K C) := by
  show (L.cls[ci]?).map (He.ga K) = _
  rw [hc]
  rfl
theorem ci_of (c : L.Says K) (ci : Nat) (hc : L.cls[ci]? = some C) : CI K (He.ga K C) := c.ci ci _ (cls_of c ci hc)
theorem mk_of (c : L.Says K) (i : Nat) (h : L.fa[i]? = some (.mkr C)) : Mk K (He.ga K C) (He.ma K (He.ga K C) "__init__") := by
  obtain ⟨h1, z⟩ := ba (c.fact i h)
  obtain ⟨h2, h3⟩ := ba z
  obtain ⟨h4, h5⟩ := fnAt_ok h2
  exact ⟨h1, h4, h5, h3⟩
theorem meth_of (c : L.Says K) (i : Nat) (h : L.fa[i]? = some (.meth C m)) : Meth K (He.ga K C) m (He.ma K (He.ga K C) m) := by
  obtain ⟨h1, h2⟩ := ba (c.fact i h)
  obtain ⟨h4, h5⟩ := fnAt_ok h1
  exact ⟨h4, h5, h2⟩
section
variable {X : Cx} {W : WX} {g : FN} {k : Nat}
theorem fieldS (c : L.Says K) (ci i : Nat) (hc : L.cls[ci]? = some C) (h : L.fa[i]? = some (.noat C f)) (e : X.K = K := by rfl) : FieldS (L.gx K c) X f ci :=
  ⟨_, cls_of c ci hc, by rw [e]; exact (ci_of c ci hc).cl, by rw [e]; exact He.eqO_ok (c.fact i h)⟩
theorem methS (c : L.Says K) (ci i : Nat) (hc : L.cls[ci]? = some C) (h : L.fa[i]? = some (.meth C m)) (F : FnS (L.gx K c) X W (.ref (He.ma K (He.ga K C) m)) g) (e : X.K = K := by rfl) : MethS (L.gx K c) X W m ci g :=
  ⟨_, _, cls_of c ci hc, by rw [e]; exact (ci_of c ci hc).cl, by rw [e]; exact meth_of c i h, F⟩
theorem binS {o : Operator} (c : L.Says K) (ci i : Nat) (hc : L.cls[ci]? = some C) (h : L.fa[i]? = some (.bin C o)) (F : FnS (L.gx K c) X W (.ref (He.ma K (He.ga K C) (PySem.dunder o.info.2))) g) (e : X.K = K := by rfl) : OpClsS (L.gx K c) X W o ci g := by
  obtain ⟨h1, z⟩ := ba (c.fact i h)
  obtain ⟨h2, z⟩ := ba z
  obtain ⟨h3, z⟩ := ba z
  obtain ⟨h4, z⟩ := ba z
  obtain ⟨h5, h6⟩ := ba z
  obtain ⟨h7, h8⟩ := fnAt_ok h2
  obtain ⟨rc, h9, h10⟩ := refNone_ok h3
  refine ⟨_, _, rc, cls_of c ci hc, ?_, ?_, ?_, ?_, h10, ?_, ?_, ?_, F⟩
  · rw [e]; exact h1
  · rw [e]; exact h7
  · rw [e]; exact h8
  · rw [e]; exact h9
  · rw [e]; exact Option.isSome_iff_exists.mp h4
  · rw [e]; exact Option.isSome_iff_exists.mp h5
  · rw [e]; exact of_decide_eq_true h6
theorem unS (c : L.Says K) (ci i : Nat) (hc : L.cls[ci]? = some C) (h : L.fa[i]? = some (.un C m)) (F : FnS (L.gx K c) X W (.ref (He.ma K (He.ga K C) m)) g) (e : X.K = K := by rfl) : UnClsS (L.gx K c) X W m ci g := by
  obtain ⟨h1, h2⟩ := fnAt_ok (c.fact i h)
  exact ⟨_, _, cls_of c ci hc, by rw [e]; exact h1, by rw [e]; exact h2, F⟩
theorem neS (c : L.Says K) (ci i : Nat) (hc : L.cls[ci]? = some C) (h : L.fa[i]? = some (.ne C)) (F : Cal (L.gx K c) X.prog X.w X.mg X.base k (He.ma K (He.ga K C) "__eq__") g) (hr : Room (k + 1) X.A) (e : X.K = K := by rfl) : NeClsS (L.gx K c) X ci g := by
  obtain ⟨h1, h2⟩ := ba (c.fact i h)
  obtain ⟨h3, h4⟩ := fnAt_ok h2
  exact ⟨_, _, k, cls_of c ci hc, by rw [e]; exact He.eqO_ok h1, by rw [e]; exact h3, by rw [e]; exact h4, by rw [e]; exact F, hr⟩
theorem callS (c : L.Says K) (ci i : Nat) (hc : L.cls[ci]? = some C) (h : L.fa[i]? = some (.callo C)) (F : Cal (L.gx K c) X.prog X.w X.mg X.base k (He.ma K (He.ga K C) "__call__") g) (hr : Room k X.A) (e : X.K = K := by rfl) : CallOS (L.gx K c) X ci g := by
  obtain ⟨h1, h2⟩ := ba (c.fact i h)
  obtain ⟨h3, h4⟩ := fnAt_ok h1
  exact ⟨_, _, k, cls_of c ci hc, by rw [e]; exact ⟨h3, h4, h2⟩, by rw [e]; exact F, hr⟩
/-- x, a constant of the top -/
theorem se_con {d : D} {pos : Pos} (c : L.Says K) (N : Ns K X.mg) (i : Nat) (h : L.fa[i]? = some (.con x d)) (hg : Gl X x) (hdb : (x == ("__debug__" : Str)) = false := by decide) : SE (L.gx K c) X W (.Name x pos) (eC d) := by
  obtain ⟨u, v, h1, h2, h3⟩ := N.con c i h
  exact se_glob hg h1 h2 h3 hdb
end
end
def orB {α : Type} (a b : Res α) : Res α := match a with | .bad => b | r => r
theorem post_or {α β : Type} {G : Gx} {R : Wd → Hp → α → β → Prop} {ρ : Wd} {H : Hp} {a b : Res α} {Q : β → Hp → Prop} {E : XK} (p : PostR G R ρ H (orB a b) Q E) : PostR G R ρ H a Q E ∨ PostR G R ρ H b Q E := by
  cases a with
  | bad => exact .inr p
  | ok d S => exact .inl p
  | exc x S => exact .inl p
def opOr (f g : D → D → Store → Res D) : D → D → Store → Res D := fun x y S => orB (f x y S) (g x y S)
theorem OpS.or {G : Gx} {X : Cx} {W : WX} {F : Value → Value → Sem Value} {f g : D → D → Store → Res D} (h1 : OpS G X W F f) (h2 : OpS G X W F g) : OpS G X W F (opOr f g) := fun pins s σ H x y v u Q ρ S d1 d2 I rx ry rl r1 r2 p =>
  (post_or p).elim (h1 pins s σ H x y v u Q ρ S d1 d2 I rx ry rl r1 r2) (h2 pins s σ H x y v u Q ρ S d1 d2 I rx ry rl r1 r2)
def fnOr (f g : FN) : FN := fun xs S => orB (f xs S) (g xs S)
theorem FnS.or {G : Gx} {X : Cx} {W : WX} {F : Value} {f g : FN} (h1 : FnS G X W F f) (h2 : FnS G X W F g) : FnS G X W F (fnOr f g) := fun pins s σ H xs us Q ρ S ds I r rl rv p =>
  (post_or p).elim (h1 pins s σ H xs us Q ρ S ds I r rl rv) (h2 pins s σ H xs us Q ρ S ds I r rl rv)
theorem cal0 {G : Gx} {P : Program} {w : World} {mg : Str → Option Value} {base : Heap} {k : Nat} {f : Addr} : Cal G P w mg base k f (fun _ _ => .bad) := by
  intro A outer s H us vs Q E hr e0 r h
  obtain ⟨ρ, S, es, rl, rv, p⟩ := h
  exact p.elim
theorem ints_rel {G : Gx} {ρ : Wd} {H : Hp} : ∀ ns : List Int, RVs G ρ H (ns.map D.int) (ns.map V.int)
  | [] => .nil
  | n :: ns => .cons (.int n) (ints_rel ns)
end L2.Mi

set_option Elab.async false
set_option linter.all false
set_option maxRecDepth 100000
set_option maxHeartbeats 4000000
set_option Elab.async false
set_option linter.all false
set_option maxRecDepth 100000
set_option maxHeartbeats 4000000
set_option Elab.async false
set_option linter.all false
set_option maxRecDepth 100000
set_option maxHeartbeats 1000000
set_option Elab.async false
set_option linter.all false
set_option maxRecDepth 100000
set_option maxHeartbeats 4000000
set_option Elab.async false
set_option linter.all false
set_option maxRecDepth 100000
set_option maxHeartbeats 4000000
set_option Elab.async false
set_option linter.all false
set_option maxRecDepth 100000
set_option maxHeartbeats 4000000
set_option Elab.async false
set_option linter.all false
set_option maxRecDepth 100000
set_option maxHeartbeats 4000000
set_option Elab.async false
set_option linter.all false
set_option maxRecDepth 100000
set_option maxHeartbeats 4000000
set_option Elab.async false
set_option linter.all false
set_option maxRecDepth 100000
set_option maxHeartbeats 4000000
set_option Elab.async false
set_option linter.all false
set_option maxRecDepth 100000
set_option maxHeartbeats 1000000
set_option Elab.async false
set_option linter.all false
set_option maxRecDepth 100000
set_option maxHeartbeats 1000000
set_option Elab.async false
set_option linter.all false
set_option maxRecDepth 100000
set_option maxHeartbeats 1000000
set_option Elab.async false
set_option linter.all false
set_option maxRecDepth 100000
set_option maxHeartbeats 1000000
set_option Elab.async false
set_option linter.all false
set_option maxRecDepth 100000
set_option maxHeartbeats 1000000
set_option Elab.async false
set_option linter.all false
set_option maxRecDepth 100000
set_option maxHeartbeats 1000000
set_option Elab.async false
set_option linter.all false
set_option maxRecDepth 100000
set_option maxHeartbeats 1000000
set_option Elab.async false
set_option linter.all false
set_option maxRecDepth 100000
set_option maxHeartbeats 1000000
set_option Elab.async false
set_option linter.all false
set_option maxRecDepth 100000
set_option maxHeartbeats 1000000
set_option Elab.async false
set_option linter.all false
set_option maxRecDepth 100000
set_option maxHeartbeats 4000000
set_option Elab.async false
set_option linter.all false
set_option maxRecDepth 100000
set_option maxHeartbeats 4000000
set_option Elab.async false
set_option linter.all false
set_option maxRecDepth 100000
set_option maxHeartbeats 4000000
set_option Elab.async false
set_option linter.all false
set_option maxRecDepth 100000
set_option maxHeartbeats 1000000
set_option Elab.async false
set_option linter.all false
set_option maxRecDepth 100000
set_option maxHeartbeats 1000000
set_option Elab.async false
set_option linter.all false
set_option maxRecDepth 100000
set_option maxHeartbeats 1000000
set_option Elab.async false
set_option linter.all false
set_option maxRecDepth 100000
set_option maxHeartbeats 1000000
set_option Elab.async false
set_option linter.all false
set_option maxRecDepth 100000
set_option maxHeartbeats 1000000
set_option Elab.async false
set_option linter.all false
set_option maxRecDepth 100000
set_option maxHeartbeats 1000000
set_option Elab.async false
set_option linter.all false
set_option maxRecDepth 100000
set_option maxHeartbeats 1000000
set_option Elab.async false
set_option linter.all false
set_option maxRecDepth 100000
set_option maxHeartbeats 1000000
set_option Elab.async false
set_option linter.all false
set_option maxRecDepth 100000
set_option maxHeartbeats 1000000
set_option Elab.async false
set_option linter.all false
set_option maxRecDepth 100000
set_option maxHeartbeats 1000000
set_option Elab.async false
set_option linter.all false
set_option maxRecDepth 100000
set_option maxHeartbeats 1000000
set_option Elab.async false
set_option linter.all false
set_option maxRecDepth 100000
set_option maxHeartbeats 4000000
set_option Elab.async false
set_option linter.all false
set_option maxRecDepth 100000
set_option maxHeartbeats 4000000
set_option Elab.async false
set_option linter.all false
set_option maxRecDepth 100000
set_option maxHeartbeats 1000000
set_option Elab.async false
set_option linter.all false
set_option maxRecDepth 100000
set_option maxHeartbeats 1000000
set_option Elab.async false
set_option linter.all false
set_option maxRecDepth 100000
set_option maxHeartbeats 4000000
set_option Elab.async false
set_option linter.all false
set_option maxRecDepth 100000
set_option maxHeartbeats 4000000
namespace L2.Mi
open PySem PySem.Spec PyProof.Rows
/-- the law's table, as the head tells it -/
def tbB (x : Str) : Fm := .raw fun K => match PySem.W.tabIn K x with
  | some p => (K.lookup p.2).isNone && PySem.W.codeHdIn K p.1 p.2
  | none => false
end L2.Mi

set_option Elab.async false
set_option linter.all false
set_option maxRecDepth 100000
set_option maxHeartbeats 4000000
set_option Elab.async false
set_option linter.all false
set_option maxRecDepth 100000
set_option maxHeartbeats 4000000
set_option Elab.async false
set_option linter.all false
set_option maxRecDepth 100000
set_option maxHeartbeats 4000000
set_option Elab.async false
set_option linter.all false
set_option maxRecDepth 100000
set_option maxHeartbeats 4000000
set_option Elab.async false
set_option linter.all false
set_option maxRecDepth 100000
set_option maxHeartbeats 4000000
set_option Elab.async false
set_option linter.all false
set_option maxRecDepth 100000
set_option maxHeartbeats 4000000
set_option Elab.async false
set_option linter.all false
set_option maxRecDepth 100000
set_option maxHeartbeats 4000000
set_option Elab.async false
set_option linter.all false
set_option maxRecDepth 100000
set_option maxHeartbeats 4000000
set_option Elab.async false
set_option linter.all false
set_option maxRecDepth 100000
set_option maxHeartbeats 4000000
set_option Elab.async false
set_option linter.all false
set_option maxRecDepth 100000
set_option maxHeartbeats 4000000
set_option Elab.async false
set_option linter.all false
set_option maxRecDepth 100000
set_option maxHeartbeats 4000000
set_option Elab.async false
set_option linter.all false
set_option maxRecDepth 100000
set_option maxHeartbeats 4000000
set_option Elab.async false
set_option linter.all false
set_option maxRecDepth 100000
set_option maxHeartbeats 4000000
set_option Elab.async false
set_option linter.all false
set_option maxRecDepth 100000
set_option maxHeartbeats 4000000
set_option Elab.async false
set_option linter.all false
set_option maxRecDepth 100000
set_option maxHeartbeats 4000000
set_option Elab.async false
set_option linter.all false
set_option maxRecDepth 100000
set_option maxHeartbeats 1000000
set_option Elab.async false
set_option linter.all false
set_option maxRecDepth 100000
set_option maxHeartbeats 1000000
set_option Elab.async false
set_option linter.all false
set_option maxRecDepth 100000
set_option maxHeartbeats 1000000
set_option Elab.async false
set_option linter.all false
set_option maxRecDepth 100000
set_option maxHeartbeats 1000000
set_option Elab.async false
set_option linter.all false
set_option maxRecDepth 100000
set_option maxHeartbeats 1000000
set_option Elab.async false
set_option linter.all false
set_option maxRecDepth 100000
set_option maxHeartbeats 1000000
set_option Elab.async false
set_option linter.all false
set_option maxRecDepth 100000
set_option maxHeartbeats 1000000
set_option Elab.async false
set_option linter.all false
set_option maxRecDepth 100000
set_option maxHeartbeats 1000000
set_option Elab.async false
set_option linter.all false
set_option maxRecDepth 100000
set_option maxHeartbeats 1000000
set_option Elab.async false
set_option linter.all false
set_option maxRecDepth 100000
set_option maxHeartbeats 1000000
set_option Elab.async false
set_option linter.all false
set_option maxRecDepth 100000
set_option maxHeartbeats 1000000
set_option Elab.async false
set_option linter.all false
set_option maxRecDepth 100000
set_option maxHeartbeats 1000000
set_option Elab.async false
set_option linter.all false
set_option maxRecDepth 100000
set_option maxHeartbeats 1000000
set_option Elab.async false
set_option linter.all false
set_option maxRecDepth 100000
set_option maxHeartbeats 1000000
set_option Elab.async false
set_option linter.all false
set_option maxRecDepth 100000
set_option maxHeartbeats 1000000
set_option Elab.async false
set_option linter.all false
set_option maxRecDepth 100000
set_option maxHeartbeats 1000000
set_option Elab.async false
set_option linter.all false
set_option maxRecDepth 100000
set_option maxHeartbeats 1000000
set_option Elab.async false
set_option linter.all false
set_option maxRecDepth 100000
set_option maxHeartbeats 1000000
set_option Elab.async false
set_option linter.all false
set_option maxRecDepth 100000
set_option maxHeartbeats 1000000
set_option Elab.async false
set_option linter.all false
set_option maxRecDepth 100000
set_option maxHeartbeats 1000000
set_option Elab.async false
set_option linter.all false
set_option maxRecDepth 100000
set_option maxHeartbeats 2000000
set_option Elab.async false
set_option linter.all false
set_option maxRecDepth 100000
set_option maxHeartbeats 2000000
set_option Elab.async false
set_option linter.all false
set_option maxRecDepth 100000
set_option maxHeartbeats 2000000
set_option Elab.async false
set_option linter.all false
set_option maxRecDepth 100000
set_option maxHeartbeats 2000000
set_option Elab.async false
set_option linter.all false
set_option maxRecDepth 100000
set_option maxHeartbeats 2000000
set_option Elab.async false
set_option linter.all false
set_option maxRecDepth 100000
set_option maxHeartbeats 2000000
set_option Elab.async false
set_option linter.all false
set_option maxRecDepth 100000
set_option maxHeartbeats 2000000
namespace L2.Mi
open PySem PySem.Spec PyProof.Rows
/-- a tuple of the top, plain -/
def tupB (x : Str) (K : Fg) : Bool := match PySem.W.nsIn K mainGlobals x with
  | some (some (.ref a)) => (match K.lookup a with | some ⟨.type t, none, _, _⟩ => decide (t = "tuple") | _ => false)
  | _ => false
end L2.Mi

set_option Elab.async false
set_option linter.all false
set_option maxRecDepth 100000
set_option maxHeartbeats 2000000
set_option Elab.async false
set_option linter.all false
set_option maxRecDepth 100000
set_option maxHeartbeats 2000000
set_option Elab.async false
set_option linter.all false
set_option maxRecDepth 100000
set_option maxHeartbeats 2000000
set_option Elab.async false
set_option linter.all false
set_option maxRecDepth 100000
set_option maxHeartbeats 4000000
namespace L2.Mi.Pg
open PySem PySem.Spec PyProof.Rows
abbrev pw : Program := PySem.Challenge.pw_farmisses_k83_conditions_on_rows
def top (i : Nat) : Stmt := pw.main.body.getD i (.Pass ⟨0, 0, 0, 0⟩)
abbrev s_0 : Stmt := inClass (top 2) 0
abbrev s_1 : Stmt := inClass (top 5) 0
abbrev s_2 : Stmt := inClass (top 5) 1
abbrev s_3 : Stmt := inClass (top 5) 2
abbrev s_4 : Stmt := inClass (top 5) 3
abbrev s_5 : Stmt := inClass (top 5) 4
abbrev s_6 : Stmt := inClass (top 5) 5
abbrev s_7 : Stmt := inClass (top 5) 6
abbrev s_8 : Stmt := top 6
abbrev s_9 : Stmt := top 8
abbrev s_10 : Stmt := top 9
abbrev s_11 : Stmt := top 10
abbrev s_12 : Stmt := top 11
abbrev s_13 : Stmt := top 13
abbrev s_14 : Stmt := top 14
abbrev s_15 : Stmt := top 15
abbrev s_16 : Stmt := top 16
abbrev s_17 : Stmt := top 17
abbrev s_18 : Stmt := top 18
abbrev s_19 : Stmt := top 19
def isiT : List (Tag × Tag × Bool) := [(.b "NoneType", .o 0, false), (.b "bool", .o 0, false), (.b "int", .o 0, false), (.b "str", .o 0, false), (.b "tuple", .o 0, false), (.b "list", .o 0, false), (.b "dict", .o 0, false), (.b "type", .o 0, false), (.o 0, .o 0, true)]
def eValue : Stmt → Expr
  | .Assign _ e _ => e
  | .Expr e _ => e
  | .Return (some e) _ => e
  | _ => .Constant .none 0 ⟨0, 0, 0, 0⟩
def eSub : Expr → Nat → Expr
  | .List es _, i => es.getD i (.Constant .none 0 ⟨0, 0, 0, 0⟩)
  | .Call f es _ _, i => if i = 100 then f else es.getD i (.Constant .none 0 ⟨0, 0, 0, 0⟩)
  | .Compare l _ cs _, i => (l :: cs).getD i (.Constant .none 0 ⟨0, 0, 0, 0⟩)
  | _, _ => .Constant .none 0 ⟨0, 0, 0, 0⟩
def lamArgs : Expr → Arguments
  | .Lambda a _ _ _ => a
  | _ => { posonlyargs := [], args := [], vararg := none, kwonlyargs := [], kw_defaults := [], kwarg := none, defaults := [] }
def lamBody : Expr → Expr
  | .Lambda _ b _ _ => b
  | e => e
def lamScope : Expr → Scope
  | .Lambda _ _ sc _ => sc
  | _ => { kind := .function, names := [], isGenerator := false, isCoroutine := false }
abbrev lamE_0 : Expr := eSub (eValue ((defBody s_19).getD 1 (.Pass ⟨0, 0, 0, 0⟩))) 0
abbrev lamE_1 : Expr := eSub (eValue ((defBody s_19).getD 2 (.Pass ⟨0, 0, 0, 0⟩))) 0
abbrev lamE_2 : Expr := eSub (eValue ((defBody s_19).getD 3 (.Pass ⟨0, 0, 0, 0⟩))) 0
abbrev lamE_3 : Expr := eSub (eSub (eValue ((defBody s_19).getD 5 (.Pass ⟨0, 0, 0, 0⟩))) 0) 0
end L2.Mi.Pg

set_option Elab.async false
set_option linter.all false
set_option maxRecDepth 100000
set_option maxHeartbeats 4000000
namespace L2.Mi.Pg
open PySem PySem.Spec PyProof.Rows
def defs : List DefM := [⟨.m "UnknownName" "__init__", "__init__", "UnknownName.__init__", s_0, []⟩,
  ⟨.m "Condition" "__init__", "__init__", "Condition.__init__", s_1, []⟩,
  ⟨.m "Condition" "parts", "parts", "Condition.parts", s_2, []⟩,
  ⟨.m "Condition" "__call__", "__call__", "Condition.__call__", s_3, []⟩,
  ⟨.m "Condition" "__and__", "__and__", "Condition.__and__", s_4, []⟩,
  ⟨.m "Condition" "__or__", "__or__", "Condition.__or__", s_5, []⟩,
  ⟨.m "Condition" "__invert__", "__invert__", "Condition.__invert__", s_6, []⟩,
  ⟨.m "Condition" "__eq__", "__eq__", "Condition.__eq__", s_7, []⟩,
  ⟨.g "where", "where", "where", s_8, []⟩,
  ⟨.g "_law_pool", "_law_pool", "_law_pool", s_9, []⟩,
  ⟨.g "_law_take", "_law_take", "_law_take", s_10, []⟩,
  ⟨.g "_law_atoms", "_law_atoms", "_law_atoms", s_11, []⟩,
  ⟨.g "_law_form", "_law_form", "_law_form", s_12, []⟩,
  ⟨.g "_law_holds", "_law_holds", "_law_holds", s_13, []⟩,
  ⟨.g "_law_is_like", "_law_is_like", "_law_is_like", s_14, []⟩,
  ⟨.g "_law_row", "_law_row", "_law_row", s_15, []⟩,
  ⟨.g "_law_atom", "_law_atom", "_law_atom", s_16, []⟩,
  ⟨.g "_law_built", "_law_built", "_law_built", s_17, []⟩,
  ⟨.g "_law_heard", "_law_heard", "_law_heard", s_18, []⟩,
  ⟨.g "law", "law", "law", s_19, []⟩]
def fa : List Fm := [.glo "law",
  .con "FIELDS" (.kt [(.str [107, 105, 110, 100]), (.str [108, 101, 118, 101, 108]), (.str [97, 99, 99, 101, 115, 115]), (.str [111, 116, 104, 101, 114]), (.str [97, 114, 114, 97, 121]), (.str [119, 111, 114, 100])]),
  .raw (tupB "FIELDS"),
  .glo "Condition",
  .mkr "Condition",
  .free "isinstance",
  .oex "UnknownName",
  .noat "UnknownName" "name",
  .glo "UnknownName",
  .free "len",
  .free "abs",
  .free "int",
  .glo "_law_take",
  .glo "_law_atoms",
  .glo "_law_form",
  .glo "_law_holds",
  .glo "_law_is_like",
  .glo "where",
  .glo "_law_built",
  .glo "_law_atom",
  .free "min",
  .free "max",
  .free "range",
  .glo "_law_pool",
  .glo "_law_row",
  .free "repr",
  .free "zip",
  .glo "_law_heard",
  .exm "UnknownName" "UnknownName" true,
  .noat "Condition" "form",
  .meth "Condition" "parts",
  .bin "Condition" .BitAnd,
  .bin "Condition" .BitOr,
  .un "Condition" "__invert__",
  .un "Condition" "__eq__",
  .ne "Condition",
  .callo "Condition",
  tbB "law"]
def L : Lw where
  cls := ["Condition"]
  flds := ["form", "name", "parts"]
  isi := isiT
  xcl := ["FarError", "UnknownName"]
  defs := defs
  fa := fa
  tab := some ("law", "law.<locals>.<lambda>")
  lams := [("law.<locals>.<lambda>", lamArgs lamE_0, lamBody lamE_0, lamScope lamE_0), ("law.<locals>.<lambda>", lamArgs lamE_1, lamBody lamE_1, lamScope lamE_1), ("law.<locals>.<lambda>", lamArgs lamE_2, lamBody lamE_2, lamScope lamE_2), ("law.<locals>.<lambda>", lamArgs lamE_3, lamBody lamE_3, lamScope lamE_3)]
  fok := by decide +kernel
end L2.Mi.Pg

set_option Elab.async false
set_option linter.all false
set_option maxRecDepth 100000
set_option maxHeartbeats 4000000
namespace L2.Mi.Pg
open PySem PySem.Spec PyProof.Rows
abbrev R : PySem.W.OpenRow := PySem.W.OpenLaw.row PySem.Challenge.rw_farmisses_k83_conditions_on_rows
abbrev hk : PySem.W.Hook := L.hook 6
def ob (s : PySem.W.SharedT) : AlM := L.obsG 6 (HandSHeadRun.getT s)
def loose0 : List Str := ["FarError", "UnknownName", "FIELDS", "Condition", "where", "_law_pool", "_law_take", "_law_atoms", "_law_form", "_law_words", "_law_holds", "_law_is_like", "_law_row", "_law_atom", "_law_built"]
def loose1 : List Str := ["_law_heard"]
def loose : List Str := loose0 ++ loose1
theorem head (w : World) : HandSHeadRun.RunEq R (PySem.W.view R.prog [19]) hk ob 20000 loose w := by
  intro os
  kernel_rfl
end L2.Mi.Pg

set_option Elab.async false
set_option linter.all false
set_option maxRecDepth 100000
set_option maxHeartbeats 4000000
set_option Elab.async false
set_option linter.all false
set_option maxRecDepth 100000
set_option maxHeartbeats 4000000
set_option Elab.async false
set_option linter.all false
set_option maxRecDepth 100000
set_option maxHeartbeats 4000000
set_option Elab.async false
set_option linter.all false
set_option maxRecDepth 100000
set_option maxHeartbeats 4000000
set_option Elab.async false
set_option linter.all false
set_option maxRecDepth 100000
set_option maxHeartbeats 4000000
set_option Elab.async false
set_option linter.all false
set_option maxRecDepth 100000
set_option maxHeartbeats 4000000
set_option Elab.async false
set_option linter.all false
set_option maxRecDepth 100000
set_option maxHeartbeats 4000000
set_option Elab.async false
set_option linter.all false
set_option maxRecDepth 100000
set_option maxHeartbeats 4000000
set_option Elab.async false
set_option linter.all false
set_option maxRecDepth 100000
set_option maxHeartbeats 4000000
set_option Elab.async false
set_option linter.all false
set_option maxRecDepth 100000
set_option maxHeartbeats 4000000
set_option Elab.async false
set_option linter.all false
set_option maxRecDepth 100000
set_option maxHeartbeats 4000000
set_option Elab.async false
set_option linter.all false
set_option maxRecDepth 100000
set_option maxHeartbeats 4000000
set_option Elab.async false
set_option linter.all false
set_option maxRecDepth 100000
set_option maxHeartbeats 4000000
set_option Elab.async false
set_option linter.all false
set_option maxRecDepth 100000
set_option maxHeartbeats 4000000
set_option Elab.async false
set_option linter.all false
set_option maxRecDepth 100000
set_option maxHeartbeats 4000000
set_option Elab.async false
set_option linter.all false
set_option maxRecDepth 100000
set_option maxHeartbeats 4000000
namespace L2.Mi
open PySem PySem.Spec PyProof.Rows
section
variable {G : Gx} {X : Cx} {W : WX} {a b c e tg : Expr} {ma mb mc m : ME} {pos : Pos}
def truD (S : Store) : D → Option Bool
  | .non => some false
  | .bl b => some b
  | .int i => some (i != 0)
  | .str l => if l.length ≤ lim then some ((l.length : Int) != 0) else none
  | d => (match seqAt S d with | some ds => some (!ds.isEmpty) | none => none)
def tTru (m : ME) : MT := fun σ S => (m σ S).bind fun d S1 => match truD S1 d with | some k => .ok k S1 | none => .bad
theorem rvs_empty {ρ : Wd} {H : Hp} {ds : List D} {xs : List V} (r : RVs G ρ H ds xs) : xs.isEmpty = ds.isEmpty := by cases r <;> rfl
theorem truD_rel {ρ : Wd} {S : Store} {H : Hp} {d : D} {x : V} {k : Bool} (rl : Rl G ρ S H) (rv : RV G ρ H d x) (h : truD S d = some k) : TruV G.K x H k := by
  have sq : ∀ {d : D} {x : V}, RV G ρ H d x → (match seqAt S d with | some ds => some (!ds.isEmpty) | none => none) = some k → TruV G.K x H k := fun {d x} rv h => by
    cases q : seqAt S d with
    | none => rw [q] at h; cases h
    | some ds =>
      rw [q] at h
      obtain ⟨a, xs, rfl, hq, hr⟩ := seqAt_rel rl rv q
      have hk : k = !xs.isEmpty := by rw [rvs_empty hr]; exact (Option.some.inj h).symm
      rcases hq with hq | hq
      · exact .inl ⟨xs, hq, hk⟩
      · exact .inr (.inl ⟨xs, hq, hk⟩)
  cases rv with
  | non => exact (Option.some.inj h).symm
  | bl b => exact (Option.some.inj h).symm
  | int i => exact (Option.some.inj h).symm
  | str l =>
    have h : (if l.length ≤ lim then some ((l.length : Int) != 0) else none) = some k := h
    by_cases hl : l.length ≤ lim
    · rw [if_pos hl] at h
      refine ⟨by rw [str_len]; exact lim_le hl, ?_⟩
      rw [str_len]
      exact (Option.some.inj h).symm
    · rw [if_neg hl] at h; cases h
  | tup ht hr => exact sq (.tup ht hr) h
  | kt ht hr => exact sq (.kt ht hr) h
  | lv n ht hr => exact sq (.lv n ht hr) h
  | fl ht hr => exact sq (.fl ht hr) h
  | ref hi => exact sq (.ref hi) h
  | fn hi => exact sq (.fn hi) h
  | ty n => cases h
  | cl hc => cases h
  | ex _ _ _ _ => cases h
  | cx _ => cases h
  | lm _ _ _ => cases h
  | dvK _ _ _ => cases h
  | dvT _ _ _ => cases h
theorem st_tru (cc : Cc G X W) (h : SE G X W e m) (he : ∀ whole, isTrue e X.env whole = (do let v ← whole; standAt e.pos; holding [v] (truthy v)) := by intro _; rfl) : ST G X W e (tTru m) := by
  refine PT.weak (pt_truth h he) fun σ H Q ⟨ρ, σs, S, rl, re, p⟩ => ?_
  refine ⟨ρ, σs, S, rl, re, p.bind (R := RV G) fun ρ1 H1 S1 d x l1 rl1 rv1 p1 => ?_⟩
  cases q : truD S1 d with
  | none => simp only [q] at p1; exact p1.elim
  | some k =>
    simp only [q] at p1
    exact ⟨k, by rw [cc.k]; exact truD_rel rl1 rv1 q, p1 ρ1 H1 k Le.refl rl1 rfl⟩
def iOr (a b : MI) : MI := fun σ S => orB (a σ S) (b σ S)
theorem si_or {iter : Expr} {m1 m2 : MI} (h1 : SI G X W tg iter m1) (h2 : SI G X W tg iter m2) : SI G X W tg iter (iOr m1 m2) := ⟨fun pins s σ H R I ⟨ρ, σs, S, rl, re, p⟩ =>
  (post_or p).elim (fun p => h1.run pins s σ H R I ⟨ρ, σs, S, rl, re, p⟩) (fun p => h2.run pins s σ H R I ⟨ρ, σs, S, rl, re, p⟩)⟩
/-- a tuple or a list -/
def iSeq (m : ME) : MI := fun σ S => (m σ S).bind fun d S1 => match tupD d with
  | some ds => .ok (fun k _ => some ds[k]?) S1
  | none => (match listAt S1 d with
    | some _ => .ok (fun k S' => (listAt S' d).map fun ds => ds[k]?) S1
    | none => .bad)
theorem iSeq_or (m : ME) (σ : En) (S : Store) : iSeq m σ S = iOr (iTup m) (iList m) σ S := by
  unfold iSeq iOr iTup iList
  cases q : m σ S with
  | ok d S1 => cases d <;> rfl
  | exc x S1 => rfl
  | bad => rfl
theorem si_seq (cc : Cc G X W) (h : SE G X W e m) : SI G X W tg e (iSeq m) := by
  have z : iSeq m = iOr (iTup m) (iList m) := funext fun σ => funext fun S => iSeq_or m σ S
  rw [z]
  exact si_or (si_tup cc h) (si_list cc h)
theorem szl {k : Nat} (h : Nat.ble k 16777216 = true) : k ≤ sizeLine := by rw [sizeLine_eq]; exact Nat.le_of_ble_eq_true h
/-- a comprehension: the block's context comes with each part -/
theorem se_lcc {elt tg iter : Expr} {ifs : List Expr} {scope : Scope} {own : List (Str × Nat)} {mi : MI} {t : TgN} {mt : MT} {me : ME} (n : Nat) (cc : Cc G X W) (hi : SI G X W tg iter mi) (ok : BlkOk X.N X.env.scope scope own) (hv : ∀ i ∈ t.slots, i ∈ own.map (·.2))
    (hg : ∀ (s : Shared) (H : Hp) (C : Addr) (cl : List (Str × Addr)) (fp : List Addr), Cc G (X.blk s H scope (compEnvC scope cl C X.env) fp) W0 → PG (X.blk s H scope (compEnvC scope cl C X.env) fp) tg (t.tg X.K))
    (ht : ∀ (s : Shared) (H : Hp) (C : Addr) (cl : List (Str × Addr)) (fp : List Addr), Cc G (X.blk s H scope (compEnvC scope cl C X.env) fp) W0 → PTs (X.blk s H scope (compEnvC scope cl C X.env) fp) ifs (tmt G W0 mt))
    (he : ∀ (s : Shared) (H : Hp) (C : Addr) (cl : List (Str × Addr)) (fp : List Addr), Cc G (X.blk s H scope (compEnvC scope cl C X.env) fp) W0 → SE G (X.blk s H scope (compEnvC scope cl C X.env) fp) W0 elt me) (hs : ∀ x, foldedSetIterable iter X.env x = pure x := by intro _; rfl) :
    SE G X W (.ListComp elt [⟨tg, iter, ifs, 0⟩] scope pos) (eLcV mi t mt me (own.map (·.2)) n) :=
  se_lcv n cc hi ok hv (fun s H C cl fp => hg s H C cl fp (cc_blk cc)) (fun s H C cl fp => ht s H C cl fp (cc_blk cc)) (fun s H C cl fp => he s H C cl fp (cc_blk cc)) hs
end
end L2.Mi

set_option Elab.async false
set_option linter.all false
set_option maxRecDepth 100000
set_option maxHeartbeats 4000000
namespace L2.Mi
open PySem
def fin (r : RS) : Res D := match r with
  | .rt d S1 => .ok d S1
  | .nx _ S1 => .ok .non S1
  | .exc x _ S1 => .exc x S1
  | _ => .bad
section
variable {α β : Type} {σ σ' : En} {S S' : Store} {a b c : ME} {t u : MT} {k l : MS} {ms : List ME} {d e : D} {i j : Nat} {x : Xn} {f g : D → D → Store → Res D} {F : List D → Store → Res D}
@[simp] theorem fin_rt : fin (.rt d S) = .ok d S := (rfl)
@[simp] theorem fin_nx : fin (.nx σ S) = .ok .non S := (rfl)
@[simp] theorem bind_ok' {a : α} {f : α → Store → Res β} : (Res.ok a S).bind f = f a S := (rfl)
@[simp] theorem eC_ev : eC d σ S = .ok d S := (rfl)
@[simp] theorem eVar_0 : eVar 0 (some d :: σ) S = .ok d S := (rfl)
@[simp] theorem eVar_s {o : Option D} : eVar (i + 1) (o :: σ) S = eVar i σ S := by unfold eVar; rw [List.getElem?_cons_succ]
@[simp] theorem eBin_ev : eBin f a b σ S = (a σ S).bind fun x S1 => (b σ S1).bind fun y S2 => f x y S2 := (rfl)
@[simp] theorem eUn_ev {f : D → Store → Res D} : eUn f a σ S = (a σ S).bind fun x S1 => f x S1 := (rfl)
@[simp] theorem aList_nil : aList [] σ S = .ok [] S := (rfl)
@[simp] theorem aList_cons : aList (a :: ms) σ S = (a σ S).bind fun x S1 => (aList ms σ S1).bind fun xs S2 => .ok (x :: xs) S2 := (rfl)
@[simp] theorem eTup_ev : eTup ms σ S = (aList ms σ S).bind fun xs S1 => .ok (.tup xs) S1 := (rfl)
@[simp] theorem eLv_ev : eLv ms σ S = (aList ms σ S).bind fun xs S1 => .ok (.lv xs) S1 := (rfl)
@[simp] theorem eLst_ev : eLst ms σ S = (aList ms σ S).bind fun xs S1 => .ok (.ref S1.size) (S1.push (.lst xs)) := (rfl)
@[simp] theorem eFn_ev {m : MA} : eFn F m σ S = (m σ S).bind F := (rfl)
@[simp] theorem tOf_ev : tOf a σ S = (a σ S).bind fun d S1 => match d with | .bl b => .ok b S1 | _ => .bad := (rfl)
@[simp] theorem tTru_ev : tTru a σ S = (a σ S).bind fun d S1 => match truD S1 d with | some k => .ok k S1 | none => .bad := (rfl)
@[simp] theorem tAnd_ev : tAnd t u σ S = (t σ S).bind fun c S1 => if c then u σ S1 else .ok false S1 := (rfl)
@[simp] theorem tOr_ev : tOr t u σ S = (t σ S).bind fun c S1 => if c then .ok true S1 else u σ S1 := (rfl)
@[simp] theorem tNot_ev : tNot t σ S = (t σ S).bind fun c S1 => .ok (!c) S1 := (rfl)
@[simp] theorem eAnd_ev : eAnd a b σ S = (tOf a σ S).bind fun c S1 => if c then b σ S1 else .ok (.bl false) S1 := (rfl)
@[simp] theorem eOr_ev : eOr a b σ S = (tOf a σ S).bind fun c S1 => if c then .ok (.bl true) S1 else b σ S1 := (rfl)
@[simp] theorem eNot_ev : eNot a σ S = (tOf a σ S).bind fun c S1 => .ok (.bl (!c)) S1 := (rfl)
@[simp] theorem eIf_ev : eIf t a b σ S = (t σ S).bind fun c S1 => if c then a σ S1 else b σ S1 := (rfl)
@[simp] theorem sNext_ev : sNext σ S = .nx σ S := (rfl)
@[simp] theorem sSeq_ev : sSeq k l σ S = (match k σ S with | .nx σ1 S1 => l σ1 S1 | r => r) := (rfl)
@[simp] theorem sRet_ev : sRet a σ S = (match a σ S with | .ok d S1 => .rt d S1 | .exc x S1 => .exc x σ S1 | .bad => .bad) := (rfl)
@[simp] theorem sIf_ev : sIf t k l σ S = (match t σ S with | .ok c S1 => (if c then k σ S1 else l σ S1) | .exc x S1 => .exc x σ S1 | .bad => .bad) := (rfl)
@[simp] theorem gName_ev : gName i d σ S = .ok (σ.set i (some d)) S := (rfl)
@[simp] theorem sAsg_ev {g : MG} : sAsg a g σ S = (match a σ S with | .ok d S1 => (match g d σ S1 with | .ok σ2 S2 => .nx σ2 S2 | _ => .bad) | .exc x S1 => .exc x σ S1 | .bad => .bad) := (rfl)
@[simp] theorem ltI_ev {i j : Int} : ltI (.int i) (.int j) S = .ok (.bl (decide (i < j))) S := (rfl)
@[simp] theorem gtI_ev {i j : Int} : gtI (.int i) (.int j) S = .ok (.bl (decide (j < i))) S := (rfl)
@[simp] theorem geI_ev {i j : Int} : geI (.int i) (.int j) S = .ok (.bl (decide (j ≤ i))) S := (rfl)
theorem mulF_ev {i j : Int} {o : D → D → Store → Res D} (h : mulOk i j = true) : mulF o (.int i) (.int j) S = .ok (.int (i * j)) S := by unfold mulF; simp only [h, if_true]
theorem modI_ev {i j : Int} (h : 0 < j) : modI (.int i) (.int j) S = .ok (.int (i % j)) S := by unfold modI intOp; simp [h]
theorem divI_ev {i j : Int} (h : divOk j = true) : divI (.int i) (.int j) S = .ok (.int (i / j)) S := by unfold divI intOp; simp [h]
theorem powI_ev {i j : Int} (h : powOk i j = true) : powI (.int i) (.int j) S = .ok (.int (i ^ j.toNat)) S := by unfold powI intOp; simp [h]
@[simp] theorem intF_ev {i : Int} : intF [.int i] S = .ok (.int i) S := (rfl)
@[simp] theorem intF_bl {i : Bool} : intF [.bl i] S = .ok (.int (if i then 1 else 0)) S := (rfl)
@[simp] theorem absF_ev {i : Int} : absF [.int i] S = .ok (.int (if i < 0 then -i else i)) S := (rfl)
@[simp] theorem max2F_ev {i j : Int} : max2F [.int i, .int j] S = .ok (.int (if j > i then j else i)) S := (rfl)
end
theorem lenF_seq {S : Store} {d : D} {xs : List D} (h : seqAt S d = some xs) : lenF [d] S = .ok (.int xs.length) S := by
  unfold seqAt at h
  cases d with
  | tup ys => cases h; rfl
  | kt ys => cases h; rfl
  | lv ys => cases h; rfl
  | fl ys => cases h; rfl
  | ref i =>
    have h' : listAt S (.ref i) = some xs := h
    show (match listAt S (.ref i) with | some xs => Res.ok (D.int xs.length) S | none => .bad) = _
    rw [h']
  | _ => cases h
theorem itemF_seq {S : Store} {d x : D} {xs : List D} {i : Int} (h : seqAt S d = some xs) (hi : L2.atI xs i = some x) : itemF d (.int i) S = .ok x S := by
  unfold seqAt at h
  unfold itemF
  cases q : tupD d with
  | some ds =>
    rw [q] at h
    cases h
    simp only [hi]
  | none =>
    rw [q] at h
    have h' : listAt S d = some xs := h
    simp only [h', hi]
theorem atI_nat {α : Type} {xs : List α} {k : Nat} {x : α} (h : xs[k]? = some x) : L2.atI xs (k : Int) = some x := by
  have hl := (List.getElem?_eq_some_iff.mp h).1
  unfold L2.atI L2.ixN
  rw [if_pos (by omega), if_pos (by omega)]
  simpa using h
theorem seqAt_list {S : Store} {d : D} {xs : List D} (h : listAt S d = some xs) : seqAt S d = some xs := by
  unfold seqAt
  cases d with
  | tup ys => cases h
  | kt ys => cases h
  | _ => exact h
theorem eqF_int {own : D → D → Store → Res D} {i j : Int} {S : Store} : eqF own (.int i) (.int j) S = .ok (.bl (i == j)) S := by
  simp [eqF, dat, SeqAt.shaped, PyData.canLay0, PyData.depth, PyData.eqv]
theorem dat_ints {n : Nat} {S : Store} : ∀ ps : List Int, mapO (dat n S) (ps.map D.int) = some (ps.map PyData.int)
  | [] => rfl
  | p :: ps => by
    have h : dat n S (.int p) = some (.int p) := by cases n <;> simp [dat]
    simp only [List.map_cons, mapO, h, dat_ints ps]
/-- tuples of ints -/
def tupI (ps : List Int) : D := .tup (ps.map D.int)
/-- d is a tuple of these ints -/
def TI (d : D) (ps : List Int) : Prop := tupD d = some (ps.map D.int)
theorem TI.of (ps : List Int) : TI (tupI ps) ps := rfl
theorem TI.seq {d : D} {ps : List Int} {S : Store} (h : TI d ps) : seqAt S d = some (ps.map D.int) := by
  unfold seqAt
  rw [show tupD d = some (ps.map D.int) from h]
theorem TI.dat {d : D} {ps : List Int} {n : Nat} {S : Store} (h : TI d ps) : dat (n + 1) S d = some (.tuple (ps.map PyData.int)) := by
  cases d with
  | tup xs => cases h; simp [L2.Mi.dat, dat_ints]
  | kt xs => cases h; simp [L2.Mi.dat, dat_ints]
  | _ => cases h
def Ext (S S' : Store) : Prop := ∀ i o, S.get i = some o → S'.get i = some o
theorem Ext.refl (S : Store) : Ext S S := fun _ _ h => h
theorem Ext.trans {a b c : Store} (h : Ext a b) (k : Ext b c) : Ext a c := fun i o e => k i o (h i o e)
theorem Ext.push {S : Store} {o : Ob} : Ext S (S.push o) := fun _ _ h => Store.get_push_some h
theorem Store.push_set {S : Store} {o o' : Ob} : (S.push o).set S.size o' = S.push o' := by
  unfold Store.push Store.set Store.size
  simp
theorem listAt_ref {S : Store} {i : Nat} {ds : List D} (h : S.get i = some (.lst ds)) : listAt S (.ref i) = some ds := by
  unfold listAt
  simp only [h]
def Sm (b : Nat) (i : Int) : Prop := i.natAbs < 2 ^ b
theorem log2_le {n b : Nat} (h : n < 2 ^ b) : n.log2 ≤ b := by
  by_cases hn : n = 0
  · subst hn; simp
  · exact Nat.le_of_lt ((Nat.log2_lt hn).mpr h)
theorem Sm.mono {a b : Nat} {i : Int} (h : Sm a i) (hab : a ≤ b) : Sm b i := Nat.lt_of_lt_of_le h (Nat.pow_le_pow_right (by omega) hab)
theorem Sm.neg {a : Nat} {i : Int} (hi : Sm a i) : Sm a (-i) := by
  unfold Sm at *
  rwa [Int.natAbs_neg]
theorem Sm.zero {a : Nat} : Sm a 0 := Nat.pow_pos (by omega)
end L2.Mi

set_option Elab.async false
set_option linter.all false
set_option maxRecDepth 100000
set_option maxHeartbeats 1000000
namespace L2.Mi
open PySem
abbrev Op2 := D → D → Store → Res D
def takeM (oA oM : Op2) : MS :=
    sSeq (sIf (tOf (eBin gtI (eBin itemF (eVar 0) (eC (.int 0))) (eC (.int 0)))) (sSeq (sSet 2 (eBin modI (eFn intF (aList [eBin itemF (eVar 0) (eC (.int 0))])) (eVar 1)))
    (sSeq (sAsg (eBin divI (eBin itemF (eVar 0) (eC (.int 0))) (eVar 1)) (gSub (eVar 0) (eC (.int 0)) setL))
    (sRet (eVar 2)))) (sNext))
    (sSeq (sAsg (eBin modI (eFn intF (aList [eBin oA (eBin oM (eBin itemF (eVar 0) (eC (.int 1))) (eC (.int 48271))) (eC (.int 12345))])) (eC (.int 2147483647))) (gSub (eVar 0) (eC (.int 1)) setL))
    (sRet (eBin modI (eBin divI (eBin modI (eFn intF (aList [eBin oM (eBin itemF (eVar 0) (eC (.int 1))) (eBin itemF (eVar 0) (eC (.int 1)))])) (eC (.int 2147483629))) (eC (.int 64))) (eVar 1))))
/-- what is asked of + and * -/
structure OpsI (oA oM : Op2) : Prop where
  a : ∀ i j S, oA (.int i) (.int j) S = .ok (.int (i + j)) S
  m : ∀ i j S, mulOk i j = true → oM (.int i) (.int j) S = .ok (.int (i * j)) S
/-- a pool stands at i -/
def Pool (S : Store) (i : Nat) : Prop := ∃ h s : Int, S.get i = some (.lst [.int h, .int s]) ∧ 0 ≤ h ∧ 0 ≤ s ∧ s < 2147483647
theorem at0 {a b : D} : L2.atI [a, b] 0 = some a := rfl
theorem at1 {a b : D} : L2.atI [a, b] 1 = some b := rfl
theorem mulOk_l {i j : Int} (h1 : -(2 ^ 64) < i) (h2 : i < 2 ^ 64) : mulOk i j = true := by
  unfold mulOk
  simp only [Bool.or_eq_true, Bool.and_eq_true, decide_eq_true_eq]
  exact .inl (.inl ⟨h1, h2⟩)
theorem mulOk_r {i j : Int} (h1 : -(2 ^ 64) < j) (h2 : j < 2 ^ 64) : mulOk i j = true := by
  unfold mulOk
  simp only [Bool.or_eq_true, Bool.and_eq_true, decide_eq_true_eq]
  exact .inl (.inr ⟨h1, h2⟩)
theorem divOk_of {w : Int} (h : 0 < w) (h1 : w < 2 ^ 31) : divOk w = true := by
  unfold divOk
  rw [Bool.and_eq_true, decide_eq_true_eq, decide_eq_true_eq]
  refine ⟨h, ?_⟩
  have := log2_le (n := w.natAbs) (b := 31) (by omega)
  omega
theorem take_ok {oA oM : Op2} (O : OpsI oA oM) {S : Store} {i : Nat} {w : Int} (hp : Pool S i) (w0 : 0 < w) (w1 : w < 2 ^ 31) :
    ∃ r o, fin (takeM oA oM [some (.ref i), some (.int w), none] S) = .ok (.int r) (S.set i o) ∧ 0 ≤ r ∧ r < w ∧ Pool (S.set i o) i := by
  obtain ⟨h, s, hg, h0, s0, s1⟩ := hp
  have hi := Store.get_lt hg
  have i0 : itemF (.ref i) (.int 0) S = .ok (.int h) S := itemF_seq (seqAt_list (listAt_ref hg)) at0
  have i1 : itemF (.ref i) (.int 1) S = .ok (.int s) S := itemF_seq (seqAt_list (listAt_ref hg)) at1
  by_cases hh : 0 < h
  · refine ⟨h % w, .lst [.int (h / w), .int s], ?_, Int.emod_nonneg _ (by omega), Int.emod_lt_of_pos _ w0, ⟨h / w, s, Store.get_set_same hi, Int.ediv_nonneg h0 (by omega), s0, s1⟩⟩
    have hs : setL (.ref i) (.int 0) (.int (h / w)) S = some (S.set i (.lst [.int (h / w), .int s])) := by
      unfold setL
      simp only [hg]
      rfl
    unfold takeM
    simp only [sSeq_ev, sIf_ev, tOf_ev, eBin_ev, eVar_0, eVar_s, eC_ev, bind_ok', i0, gtI_ev, decide_eq_true hh, if_true, sAsg_ev, eFn_ev, aList_cons, aList_nil, intF_ev, modI_ev w0, gName_ev, List.set_cons_succ, List.set_cons_zero, divI_ev (divOk_of w0 w1), gSub, hs, sRet_ev, fin_rt]
  · have hs : ∀ z : Int, setL (.ref i) (.int 1) (.int z) S = some (S.set i (.lst [.int h, .int z])) := fun z => by
      unfold setL
      simp only [hg]
      rfl
    have p0 : (0 : Int) ≤ (s * 48271 + 12345) % 2147483647 := Int.emod_nonneg _ (by omega)
    have p1 : (s * 48271 + 12345) % 2147483647 < 2147483647 := Int.emod_lt_of_pos _ (by omega)
    have hg2 : (S.set i (.lst [.int h, .int ((s * 48271 + 12345) % 2147483647)])).get i = some (.lst [.int h, .int ((s * 48271 + 12345) % 2147483647)]) := Store.get_set_same hi
    have j1 : itemF (.ref i) (.int 1) (S.set i (.lst [.int h, .int ((s * 48271 + 12345) % 2147483647)])) = .ok (.int ((s * 48271 + 12345) % 2147483647)) (S.set i (.lst [.int h, .int ((s * 48271 + 12345) % 2147483647)])) := itemF_seq (seqAt_list (listAt_ref hg2)) at1
    refine ⟨(((s * 48271 + 12345) % 2147483647) * ((s * 48271 + 12345) % 2147483647)) % 2147483629 / 64 % w, .lst [.int h, .int ((s * 48271 + 12345) % 2147483647)], ?_, Int.emod_nonneg _ (by omega), Int.emod_lt_of_pos _ w0, ⟨h, _, hg2, h0, p0, p1⟩⟩
    unfold takeM
    have k1 := O.m s 48271 S (mulOk_r (by omega) (by omega))
    have k2 := O.m ((s * 48271 + 12345) % 2147483647) ((s * 48271 + 12345) % 2147483647) (S.set i (.lst [.int h, .int ((s * 48271 + 12345) % 2147483647)])) (mulOk_r (by omega) (by omega))
    simp only [sSeq_ev, sIf_ev, tOf_ev, eBin_ev, eVar_0, eVar_s, eC_ev, bind_ok', i0, i1, gtI_ev, decide_eq_false hh, Bool.false_eq_true, if_false, sNext_ev, sAsg_ev, eFn_ev, aList_cons, aList_nil, intF_ev, k1, O.a, modI_ev (show (0 : Int) < 2147483647 by omega), gSub, hs, sRet_ev, j1, k2, modI_ev (show (0 : Int) < 2147483629 by omega), divI_ev (divOk_of (show (0 : Int) < 64 by omega) (by omega)), modI_ev w0, fin_rt]
def poolM (lx : FN) (oA oM : Op2) : MS :=
    sSeq (sSet 2 (eC (.int 0)))
    (sSeq (sIf (tOf (eBin ltI (eVar 1) (eFn lx (aList [eVar 0])))) (sSet 2 (eBin itemF (eVar 0) (eVar 1))) (sNext))
    (sSeq (sSet 3 (eFn absF (aList [eVar 2])))
    (sSeq (sSet 4 (eBin modI (eBin oM (eFn intF (aList [eBin oA (eBin modI (eFn intF (aList [eVar 2])) (eC (.int 2147483629))) (eBin oM (eC (.int 104729)) (eBin oA (eVar 1) (eC (.int 1))))])) (eBin oA (eVar 1) (eC (.int 7)))) (eC (.int 2147483629))))
    (sSeq (sSet 5 (eBin modI (eBin oM (eBin modI (eFn intF (aList [eBin oM (eVar 4) (eVar 4)])) (eC (.int 2147483629))) (eC (.int 48271))) (eC (.int 2147483647))))
    (sRet (eLst [eBin oM (eVar 3) (eFn intF (aList [eBin geI (eVar 3) (eBin powI (eC (.int 10)) (eC (.int 18)))])), eVar 5]))))))
theorem pool_ok {lx : FN} {oA oM : Op2} (O : OpsI oA oM) {S : Store} {ns : List Int} {k : Nat} (hx : lx [.fl (ns.map D.int)] S = lenF [.fl (ns.map D.int)] S) (hk : k < 1000) (hl : ns.length ≤ 1000) :
    ∃ o, fin (poolM lx oA oM [some (.fl (ns.map D.int)), some (.int (k : Int)), none, none, none, none] S) = .ok (.ref S.size) (S.push o) ∧ Pool (S.push o) S.size := by
  have hc : ∃ c : Int, sIf (tOf (eBin ltI (eVar 1) (eFn lx (aList [eVar 0])))) (sSet 2 (eBin itemF (eVar 0) (eVar 1))) sNext [some (.fl (ns.map D.int)), some (.int (k : Int)), some (.int 0), none, none, none] S =
      .nx [some (.fl (ns.map D.int)), some (.int (k : Int)), some (.int c), none, none, none] S := by
    have hlen : lx [.fl (ns.map D.int)] S = .ok (.int ns.length) S := by
      rw [hx, lenF_seq (xs := ns.map D.int) rfl, List.length_map]
    by_cases h : k < ns.length
    · refine ⟨ns[k], ?_⟩
      have hi : itemF (.fl (ns.map D.int)) (.int (k : Int)) S = .ok (.int ns[k]) S := itemF_seq (xs := ns.map D.int) rfl (atI_nat (by simp [h]))
      simp only [sIf_ev, tOf_ev, eBin_ev, eVar_s, eVar_0, eFn_ev, aList_cons, aList_nil, bind_ok', hlen, ltI_ev, decide_eq_true (show (k : Int) < (ns.length : Int) by omega), if_true, sAsg_ev, hi, gName_ev, List.set_cons_succ, List.set_cons_zero]
    · refine ⟨0, ?_⟩
      simp only [sIf_ev, tOf_ev, eBin_ev, eVar_s, eVar_0, eFn_ev, aList_cons, aList_nil, bind_ok', hlen, ltI_ev, decide_eq_false (show ¬ (k : Int) < (ns.length : Int) by omega), Bool.false_eq_true, if_false, sNext_ev]
  obtain ⟨c, hc⟩ := hc
  have q1 : (0 : Int) < 2147483629 := by omega
  have q2 : (0 : Int) < 2147483647 := by omega
  have r0 := Int.emod_nonneg c (show (2147483629 : Int) ≠ 0 by omega)
  have r1 := Int.emod_lt_of_pos c q1
  have m1 : mulOk 104729 ((k : Int) + 1) = true := mulOk_l (by omega) (by omega)
  have m2 : mulOk (c % 2147483629 + 104729 * ((k : Int) + 1)) ((k : Int) + 7) = true := mulOk_r (by omega) (by omega)
  have b0 := Int.emod_nonneg ((c % 2147483629 + 104729 * ((k : Int) + 1)) * ((k : Int) + 7)) (show (2147483629 : Int) ≠ 0 by omega)
  have b1 := Int.emod_lt_of_pos ((c % 2147483629 + 104729 * ((k : Int) + 1)) * ((k : Int) + 7)) q1
  generalize hb : (c % 2147483629 + 104729 * ((k : Int) + 1)) * ((k : Int) + 7) % 2147483629 = bl at b0 b1
  have m3 : mulOk bl bl = true := mulOk_l (by omega) (by omega)
  have m4 : mulOk (bl * bl % 2147483629) 48271 = true := mulOk_r (by omega) (by omega)
  have s0 := Int.emod_nonneg (bl * bl % 2147483629 * 48271) (show (2147483647 : Int) ≠ 0 by omega)
  have s1 := Int.emod_lt_of_pos (bl * bl % 2147483629 * 48271) q2
  have a0 : (0 : Int) ≤ (if c < 0 then -c else c) := by split <;> omega
  generalize ha : (if c < 0 then -c else c) = hv at a0
  have pw : powOk 10 18 = true := by decide
  have f0 : (0 : Int) ≤ (if decide ((10 : Int) ^ (18 : Int).toNat ≤ hv) = true then 1 else 0) ∧ (if decide ((10 : Int) ^ (18 : Int).toNat ≤ hv) = true then (1 : Int) else 0) ≤ 1 := by split <;> omega
  have m5 : mulOk hv (if decide ((10 : Int) ^ (18 : Int).toNat ≤ hv) = true then 1 else 0) = true := mulOk_r (by omega) (by omega)
  refine ⟨_, ?_, ⟨hv * (if decide ((10 : Int) ^ (18 : Int).toNat ≤ hv) = true then 1 else 0), bl * bl % 2147483629 * 48271 % 2147483647, Store.get_push_same, Int.mul_nonneg a0 f0.1, s0, s1⟩⟩
  unfold poolM
  simp only [sSeq_ev, sAsg_ev, eC_ev, gName_ev, List.set_cons_succ, List.set_cons_zero, hc, eFn_ev, aList_cons, aList_nil, eVar_s, eVar_0, bind_ok', absF_ev, ha, eBin_ev, intF_ev, modI_ev q1, modI_ev q2, O.a, O.m _ _ _ m1, O.m _ _ _ m2, hb, O.m _ _ _ m3, O.m _ _ _ m4, sRet_ev, eLst_ev, powI_ev pw, geI_ev, intF_bl, O.m _ _ _ m5, fin_rt]
end L2.Mi

set_option Elab.async false
set_option linter.all false
set_option maxRecDepth 100000
set_option maxHeartbeats 4000000
namespace L2.Mi
open PySem PySem.Spec PyProof.Rows
structure XC (K : Fg) (C fI : Addr) : Prop where
  o : OexC K C
  x : XfC K C
  i : PySem.W.findIn K (.ref C) "__init__" = some (some (.ref fI))
  t : PySem.W.typeIn K (.ref fI) = some (.type "function")
theorem oexO_ok {K : Fg} {C : Addr} (h : oexO K C = true) : ∃ nm q N bs bm sn sub ab col dd k0 k1 k2 k3 k5, K.lookup C = some (excClassObj nm q C N bs bm true sn sub ab col dd k0 k1 k2 k3 k5 "ValueError.__new__") ∧ PySem.HandSPX.refsVE bm = true := by
  unfold oexO at h
  split at h
  · rename_i t dd cd sl look
    split at h
    · rename_i C2 bm k0 k1 k2 k3 n k5 e1 e2
      obtain ⟨a1, h⟩ := ba h
      obtain ⟨a2, h⟩ := ba h
      obtain ⟨a3, h⟩ := ba h
      obtain ⟨a4, h⟩ := ba h
      obtain ⟨a5, a6⟩ := ba h
      have b1 := of_decide_eq_true a1
      have b2 := of_decide_eq_true a2
      have b3 := of_decide_eq_true a3
      subst b1 b2 b3
      obtain ⟨z1, z2, z3, z4, z5, z6, z7, z8, z9, z10, z11⟩ := cd
      obtain ⟨sl0⟩ := sl
      simp only at e1 e2 a4 a5
      have a7 : z11 = false := by simpa using a4
      subst e1 e2 a5 a7
      exact ⟨_, _, _, _, _, _, _, _, _, _, _, _, _, _, _, look, a6⟩
    · cases h
  · cases h
theorem xc_of {L : Lw} {K : Fg} (c : L.Says K) (i : Nat) {C : Str} (h : L.fa[i]? = some (.oex C)) : XC K (He.ga K C) (He.ma K (He.ga K C) "__init__") := by
  obtain ⟨h1, z⟩ := ba (c.fact i h)
  obtain ⟨h2, z⟩ := ba z
  obtain ⟨h3, z⟩ := ba z
  obtain ⟨h4, z⟩ := ba z
  obtain ⟨h5, z⟩ := ba z
  obtain ⟨h6, h7⟩ := ba z
  obtain ⟨h8, h9⟩ := fnAt_ok h6
  exact ⟨⟨oexO_ok h1, He.eqO_ok h2, of_decide_eq_true h3, of_decide_eq_true h4, h5⟩, xfB_ok h7, h8, beq_iff_eq.mp h9⟩
def spX (K : Fg) (f : Str) : Sp := fun vs H Q _ => ∃ (a C : Addr) (v : V), vs = [.ref a, v] ∧ OexC K C ∧ PySem.W.findIn K (.ref C) f = some none ∧ H a = some (exo a C none) ∧
  ∀ dx, H dx = none → dx ≠ a → Q .non (upd (upd H dx (exd dx [(f, v)])) a (exo a C (some dx)))
theorem xi_ok {P : Program} {w : World} {K : Fg} {mg : Str → Option Value} {base : Heap} {x qual : Str} {params : Arguments} {scope : Scope} {fI : Addr} {fd : FuncData} {k : Nat} {s v f : Str} {p1 p2 p3 pos : Pos} {dvs : List V} {kws : List (Str × V)}
    (F : FunD K x qual params [.Assign [.Attribute (.Name s p1) f p2] (.Name v p3) pos] scope dvs kws fI fd) (S : FnScope [s, v] [s, v] scope) (hs : Vis scope s) (hv : Vis scope v)
    (d1 : (s == ("__debug__" : Str)) = false := by decide) (d2 : (s == ("__classdict__" : Str)) = false := by decide) (d3 : (v == ("__debug__" : Str)) = false := by decide) (d4 : (v == ("__classdict__" : Str)) = false := by decide) :
    FnOk P w K mg base (L2.CX P w) (k + 1) fI fd [s, v] (spX K f) := by
  refine F.ok S (fun vs H Q E ⟨a, C, u, e, _⟩ => by rw [e]; rfl) fun cdv A outer st H vs Q E hr ⟨a, C, u, e, T, hn, ha, q⟩ => ?_
  subst e
  refine ⟨_, pss_one (ps_ost (pe_var (i := 0) rfl hs d1 d2) (pe_var (i := 1) rfl hv d3 d4)), u, rfl, .ref a, rfl, a, C, rfl, T, hn, .inl ⟨ha, fun dx n1 n2 => q dx n1 n2⟩⟩
def sRaise (c f : Nat) (m : ME) : MS := fun σ S => match m σ S with
  | .ok d S1 => .exc ⟨c, [(f, d)]⟩ σ S1
  | .exc x S1 => .exc x σ S1
  | .bad => .bad
theorem made_heap {H : Hp} {a dx C : Addr} {v : V} {f : Str} (n1 : H a = none) (ne : dx ≠ a) :
    upd (del (upd (upd (upd H a (exo a C none)) dx (exd dx [(f, v)])) a (exo a C (some dx))) a) dx (.xd [(f, v)]) = upd H dx (.xd [(f, v)]) := by
  funext b
  by_cases h1 : b = dx
  · subst h1
    rw [upd_same, upd_same]
  · rw [upd_ne h1, upd_ne h1]
    by_cases h2 : b = a
    · subst h2
      rw [del_same, n1]
    · rw [del_ne h2, upd_ne h2, upd_ne h1, upd_ne h2]
section
variable {G : Gx} {X : Cx} {W : WX}
theorem passFalse : Passes (L2.CX X.prog X.w) X (fun _ _ _ => False) := fun _ _ _ _ _ _ _ h => by
  obtain ⟨_, _, _, _, _, _, _, _, _, _, _, _, z⟩ := h
  exact z.elim
theorem ss_raise {e : Expr} {m : ME} {c f : Nat} {C fI : Addr} {k : Nat} {fd : FuncData} {ps : List Str} {x : Str} {p pos pos2 : Pos} (cc : Cc G X W) (T : XC X.K C fI) (hc : G.clsv c = some (.ref C)) (hn : PySem.W.findIn X.K (.ref C) (G.fld f) = some none)
    (F : FnOk X.prog X.w X.K X.mg X.base (L2.CX X.prog X.w) k fI fd ps (spX X.K (G.fld f))) (hr : Room (k + 1) X.A) (hb : Binds X.K fd ps []) (hg : Gl X x) (hm : X.mg x = some (.ref C)) (he : SE G X W e m)
    (hdb : (x == ("__debug__" : Str)) = false := by decide) (hs : starEach [e] X.env = (false, eval e X.env) :: starEach [] X.env := by rfl) (hpl : (backTo pos (starEach [] X.env)).any (·.1) = false := by rfl) :
    SS G X W (.Raise (some (.Call (.Name x p) [e] [] pos)) none pos2) (sRaise c f m) := by
  have mk : PMk X (.Call (.Name x p) [e] [] pos) _ := pmk_oex T.o T.i T.t F hr hb .nil passFalse hg hm (sa_cons he sa_nil hs) hdb hs hpl
  refine PS.weak (ps_raise cc.calm cc.tk mk) fun D σ H ⟨ρ, σs, S, rl, re, q⟩ => ?_
  refine ⟨ρ, σs, S, rl, re, ?_⟩
  unfold sRaise at q
  unfold aList aList
  cases hm1 : m σs S with
  | bad => rw [hm1] at q; exact q.elim
  | exc y S1 => rw [hm1] at q; exact fun ρ1 H1 cls dd l1 rl1 rx => q ρ1 H1 σ cls dd l1 rl1 (re.mono l1) rx
  | ok d S1 =>
    rw [hm1] at q
    intro ρ1 H1 xs l1 rl1 rv1
    obtain ⟨v, rfl, rv⟩ := rvs1 rv1
    refine ⟨by simp, fun a ha => ⟨a, C, v, rfl, T.o, hn, upd_same, fun dx n1 n2 => ?_⟩⟩
    have hx : H1 dx = none := by rw [upd_ne n2] at n1; exact n1
    refine ⟨rfl, dx, [(G.fld f, v)], upd_same, by rw [upd_ne n2, upd_same], hx, ?_⟩
    rw [made_heap ha n2]
    refine q ρ1 _ σ (.ref C) (some dx) (l1.trans (Le.new hx)) (rl1.other hx) ((re.mono l1).mono (Le.new hx)) ⟨hc, .inr ⟨dx, _, rfl, upd_same, .cons (rv.mono (Le.new hx)) .nil⟩⟩
end
end L2.Mi

set_option Elab.async false
set_option linter.all false
set_option maxRecDepth 100000
set_option maxHeartbeats 4000000
namespace L2.Mi
open PySem PySem.Spec PyProof.Rows
/-- a clause: its class, the slot of its name, what its return gives -/
structure Cls1 where
  c : Value
  i : Option Nat
  tx : Addr → Value → Option Addr → TE
def Cls1.put (q : Cls1) (a : Addr) (σ : St) : St := match q.i with
  | none => σ
  | some i => σ.set i (some (.ref a))
def wCl (K : Fg) (Wo : WX) (R : VK) : List Cls1 → WX
  | [] => Wo
  | q :: r => fun cls d σ H => ∃ b, PySem.W.exmOne K cls q.c = some b ∧ (b = true → ∀ a, H a = none → q.tx a cls d (q.put a σ) H R) ∧ (b = false → wCl K Wo R r cls d σ H)
inductive ClOk (X : Cx) : List ExceptHandler → List Cls1 → Prop
  | nil : ClOk X [] []
  | bare {x : Str} {c : Value} {tx : Addr → Value → Option Addr → TE} {e : Expr} {np rp hp : Pos} {hs : List ExceptHandler} {l : List Cls1} (nm : Names X x c)
      (su : ∀ (a : Addr) (oe : Obj) (cls : Value) (d : Option Addr) (pn : List (Addr × Obj)), Zc cls d oe → (∃ vs, oe.data = .fields vs) → PE (X.suite a ((a, oe) :: pn)) e (tx a cls d)) (r : ClOk X hs l) :
      ClOk X (.ExceptHandler (some (.Name x np)) none [.Return (some e) rp] hp :: hs) (⟨c, none, tx⟩ :: l)
  | named {x n : Str} {c : Value} {i : Nat} {tx : Addr → Value → Option Addr → TE} {e : Expr} {np rp hp : Pos} {hs : List ExceptHandler} {l : List Cls1} (nm : Names X x c) (hi : X.N[i]? = some n) (lo : X.env.kindOf n = some .local)
      (su : ∀ (a : Addr) (oe : Obj) (cls : Value) (d : Option Addr) (pn : List (Addr × Obj)), Zc cls d oe → (∃ vs, oe.data = .fields vs) → PE (X.suite a ((a, oe) :: pn)) e (tx a cls d)) (r : ClOk X hs l) :
      ClOk X (.ExceptHandler (some (.Name x np)) (some n) [.Return (some e) rp] hp :: hs) (⟨c, some i, tx⟩ :: l)
section
variable {X : Cx} {body : List Stmt} {g : ExceptHandler} {hs : List ExceptHandler} {l : List Cls1} {pos : Pos} {tb : WX → TS} {Wo : WX}
/-- a value's name that an exception holds -/
theorem name_there {x : Str} {c : Value} (nm : Names X x c) {a : Addr} {oe : Obj} {pn pins : List (Addr × Obj)} {σ : St} {H : Hp} {s : Shared} (J : Inv (X.suite a ((a, oe) :: pn)) pins σ H s) {np : Pos} {Q : Value → Shared → Prop} {E : Value → Shared → Prop} (q : Q c s) :
    wpAny (model X.prog X.w) (X.A.mark (some (.ref a))) (eval (.Name x np) X.env) Q E s := by
  rcases nm with ⟨g1, g2, g3 | ⟨g3, g4, g5⟩⟩
  · exact ld_glob (X := X.suite a ((a, oe) :: pn)) J g1 g3 q g2
  · exact ld_blt (X := X.suite a ((a, oe) :: pn)) J g1 g3 g4 q g5 g2
/-- where the exception lies is no frame -/
theorem no_frame {B h : Heap} {es : List Env} {a : Addr} {o : Obj} {vs : Array Value} (ff : h.FunFrames B es) (e1 : h.get? a = some o) (e2 : o.data = .fields vs) : a ∉ frs es := fun z => by
  obtain ⟨_, o2, e3, e4⟩ := ff.mem z
  rw [e1] at e3
  cases e3
  exact e4 _ e2
/-- the clauses, one after another -/
theorem clauses_go {B : Heap} {a : Addr} {cls : Value} {d : Option Addr} {σ1 : St} {H1 : Hp} {sI s1 : Shared} {pins : List (Addr × Obj)} {D : Ends} (nd : X.N.Nodup) (st : X.stack = X.env :: X.outer) (fr : X.env.frame = some X.env.locals) (tk : Takes X Wo)
    (J : Inv X pins σ1 H1 sI) (sky : HandSPX.FlyingZ B (X.env :: X.outer) a (Zc cls d) s1.heap) (up : sI.heap.UpToSlots s1.heap) (nb : ∀ (b : Addr) (o : Obj), sI.heap.get? b = some o → b ∉ frs X.stack → B.get? b = some o) (na : H1 a = none) (os : s1.os = sI.os) (ag : AllBare s1.gens) :
    ∀ {hs : List ExceptHandler} {l : List Cls1}, ClOk X hs l → wCl X.K Wo D.rt l cls d σ1 H1 → wpAny (model X.prog X.w) X.A (handleBy (.ref a) X.env hs) (SP X pins D) X.xe s1 := by
  have J0 : ∀ {h2 : Heap}, HandSPX.FlyingZ B (X.env :: X.outer) a (Zc cls d) h2 → s1.heap.UpToSlots h2 → Inv X pins σ1 H1 { s1 with heap := h2 } := fun f u => J.landed nb f.1 (up.trans u) os ag
  have side : ∀ {h2 : Heap} {o : Obj} {vs : Array Value}, HandSPX.FlyingZ B (X.env :: X.outer) a (Zc cls d) h2 → h2.get? a = some o → o.data = .fields vs → a ≠ X.env.locals ∧ a ∉ X.fs := fun f e1 e2 => by
    have nf := no_frame f.2.2.1 e1 e2
    refine ⟨fun z => nf (List.mem_filterMap.mpr ⟨X.env, by simp, by rw [fr, z]⟩), fun z => ?_⟩
    obtain ⟨y, hy, q⟩ := List.mem_filterMap.mp z
    exact nf (List.mem_filterMap.mpr ⟨y, by simp [hy], q⟩)
  obtain ⟨o1, v1, g1, z1, d1⟩ := sky.there
  have J1 : Inv X pins σ1 H1 s1 := J0 sky (Heap.UpToSlots.refl _)
  have S1 := J1.suite g1 d1 na (side sky g1 d1).1 (side sky g1 d1).2
  have ty : PySem.W.Looks (model X.prog X.w) s1.heap (typeOf (.ref a)) cls := fun _ _ _ _ kk q => wpAny_typeOf_ref (kk _ _ g1) (by rw [z1.1]; exact q)
  intro hs l hc
  induction hc with
  | nil =>
    intro w
    refine wpAny_handleBy_nil ?_
    obtain ⟨b1, b2, b3, oe, fv, T, oT, tv, c1, c2, c3, c4, c5⟩ := id sky
    have done : wpAny (model X.prog X.w) X.A (setFlight (.ref a) X.env.frame) (fun _ s2 => wpAny (model X.prog X.w) X.A (throw (.ref a) : Sem Flow) (SP X pins D) X.xe s2) X.xe s1 := by
      rw [fr]
      refine HandSPX.setFlight_upZ sky fun h2 held u2 => wpAny_throw (tk _ _ ⟨a, B, sI, pins, σ1, H1, cls, d, rfl, J, nb, up.trans u2, ?_, na, os, ag, w⟩)
      exact .inr (.inr (by rw [st]; exact held))
    unfold PySem.passOn
    refine wpAny_bind (wpAny_field c1 c3 c4 ?_)
    have nz : ¬ ((Value.ref T == Value.none) = true) := by simp
    rw [if_neg nz]
    first
      | exact wpAny_bind done
      | exact wpAny_bind (wpAny_pure (wpAny_bind done))
  | @bare x c tx e np rp hp hs2 l2 nm su r ih =>
    rintro ⟨b, e1, yes, no⟩
    refine wpAny_handleBy_cons (codeAny_handlers_test (name_there nm S1 ?_)) fun z => by cases z
    refine (PySem.W.exm_one (M := model X.prog X.w) J1.kIn ty e1).here ?_
    cases b with
    | false => exact ih (no rfl)
    | true =>
      refine codeAny_handlers_suite (HandSPX.lands_againZ sky fun h2 f2 u2 => ?_)
      obtain ⟨o2, v2, g2, z2, d2⟩ := f2.there
      have S2 := (J0 f2 u2).suite g2 d2 na (side f2 g2 d2).1 (side f2 g2 d2).2
      have run := (pss_one (ps_ret (pos := rp) (su a o2 cls d (X.pn ++ pins) z2 ⟨_, d2⟩))).run [] _ _ H1 D S2 (yes rfl a na)
      refine wpAny_mono run (fun f s3 q => ?_) fun _ _ z => z.elim
      cases f with
      | ret u => obtain ⟨v6, σ6, H6, S6, r6, q6⟩ := q; exact ⟨v6, σ6, H6, S6.unsuite J.ok, r6, q6⟩
      | next => obtain ⟨σ6, H6, S6, q6⟩ := q; exact ⟨σ6, H6, S6.unsuite J.ok, q6⟩
      | brk => obtain ⟨σ6, H6, S6, q6⟩ := q; exact ⟨σ6, H6, S6.unsuite J.ok, q6⟩
      | cont => obtain ⟨σ6, H6, S6, q6⟩ := q; exact ⟨σ6, H6, S6.unsuite J.ok, q6⟩
  | @named x n c i tx e np rp hp hs2 l2 nm hi lo su r ih =>
    rintro ⟨b, e1, yes, no⟩
    refine wpAny_handleBy_cons (codeAny_handlers_test (name_there nm S1 ?_)) fun z => by cases z
    refine (PySem.W.exm_one (M := model X.prog X.w) J1.kIn ty e1).here ?_
    cases b with
    | false => exact ih (no rfl)
    | true =>
      refine codeAny_handlers_suite_as (HandSPX.lands_againZ sky fun h2 f2 u2 => ?_)
      obtain ⟨o2, v2, g2, z2, d2⟩ := f2.there
      have S2 := (J0 f2 u2).suite g2 d2 na (side f2 g2 d2).1 (side f2 g2 d2).2
      refine store_ok (X := X.suite a ((a, o2) :: (X.pn ++ pins))) (v := .ref a) S2 nd hi (.inl lo) rfl (fun s3 S3 => ?_) (.inr lo)
      have run := (pss_one (ps_ret (pos := rp) (su a o2 cls d (X.pn ++ pins) z2 ⟨_, d2⟩))).run [] s3 _ H1 { nx := fun _ _ => False, rt := D.rt } S3 (yes rfl a na)
      refine wpAny_mono run (fun f s4 q => ?_) fun _ _ z => z.elim
      cases f with
      | ret u =>
        obtain ⟨v6, σ6, H6, S6, r6, q6⟩ := q
        exact gone_ok (S6.unsuite J.ok) nd hi lo fun s7 J7 => ⟨v6, _, H6, J7, r6, q6⟩
      | next => obtain ⟨_, _, _, q6⟩ := q; exact q6.elim
      | brk => obtain ⟨_, _, _, q6⟩ := q; exact q6.elim
      | cont => obtain ⟨_, _, _, q6⟩ := q; exact q6.elim
/-- try: body; the clauses return -/
theorem ps_tryC (nd : X.N.Nodup) (st : X.stack = X.env :: X.outer) (fr : X.env.frame = some X.env.locals) (tk : Takes X Wo)
    (hb : ∀ (W : WX) (pn : List (Addr × Obj)) (xe : Value → Shared → Prop), Takes (X.tr pn xe) W → PassesOwn (model X.prog X.w) X.A X.env xe → PSs (X.tr pn xe) body (tb W)) (hc : ClOk X (g :: hs) l) :
    PS X (.Try body (g :: hs) [] [] pos) (fun D σ H => tb (wCl X.K Wo D.rt l) D σ H) := by
  refine ⟨fun pins s σ H D I h => wpAny_Try_except ?_⟩
  have back : ∀ {σ2 : St} {H2 : Hp} {s2 : Shared} {pn : List (Addr × Obj)} {xe : Value → Shared → Prop}, Inv (X.tr (X.pn ++ pins) xe) pn σ2 H2 s2 → Inv X pins σ2 H2 s2 := fun J => J.ofTry I.ok
  let xe : Value → Shared → Prop := fun u s1 => wpAny (model X.prog X.w) X.A (noteFrame u X.env) (fun _ s2 => wpAny (model X.prog X.w) X.A (setFlight u none) (fun _ s3 => wpAny (model X.prog X.w) X.A (handleBy u X.env (g :: hs)) (SP X pins D) X.xe s3) X.xe s2) X.xe s1
  have tk2 : Takes (X.tr (X.pn ++ pins) xe) (wCl X.K Wo D.rt l) := by
    intro u s1 xx
    obtain ⟨a, B, sI, pins2, σ2, H2, cls, d, rfl, J2, nb, up, sky, na, os, ag, w⟩ := xx
    have sky2 : Sky B (X.env :: X.outer) a (Zc cls d) X.env.locals s1.heap := by rw [← st]; exact sky
    show wpAny (model X.prog X.w) X.A (noteFrame (.ref a) X.env) _ X.xe s1
    refine Sky.land Zc.steady (by rw [I.ok.frames, st]) fr sky2 fun h3 f3 u3 => ?_
    exact clauses_go (s1 := { s1 with heap := h3 }) nd st fr tk (back J2) f3 (up.trans u3) nb na os ag hc w
  have run := (hb (wCl X.K Wo D.rt l) (X.pn ++ pins) xe tk2 PassesOwn.looking).run [] s σ H D (I.toTry xe) h
  refine wpAny_mono run (fun f s1 q => ?_) fun _ _ z => z
  cases f with
  | next => obtain ⟨σ2, H2, J2, q2⟩ := q; exact wpAny_execs_nil ⟨σ2, H2, back J2, q2⟩
  | brk => obtain ⟨σ2, H2, J2, q2⟩ := q; exact ⟨σ2, H2, back J2, q2⟩
  | cont => obtain ⟨σ2, H2, J2, q2⟩ := q; exact ⟨σ2, H2, back J2, q2⟩
  | ret u => obtain ⟨v2, σ2, H2, J2, r2, q2⟩ := q; exact ⟨v2, σ2, H2, back J2, r2, q2⟩
end
abbrev MX := Xn → Store → Res D
section
variable (G : Gx) (i : Option Nat) (a : Addr) (cls : Value) (d : Option Addr)
def tmx (m : MX) : TE := fun σ H Q => ∃ ρ S x, Rl G ρ S H ∧ RX G ρ H x cls d ∧ (∀ j, i = some j → σ[j]? = some (some (.ref a))) ∧ Post G ρ H (m x S) Q (fun _ _ _ => False)
end
def SX (G : Gx) (X : Cx) (i : Option Nat) (e : Expr) (m : MX) : Prop :=
  ∀ (a : Addr) (oe : Obj) (cls : Value) (d : Option Addr) (pn : List (Addr × Obj)), Zc cls d oe → (∃ vs, oe.data = .fields vs) → PE (X.suite a ((a, oe) :: pn)) e (tmx G i a cls d m)
def xF (c f : Nat) : MX := fun x S => if x.c = c then (match x.fs.lookup f with | some d => .ok d S | none => .bad) else .bad
theorem RX.mono {G : Gx} {ρ ρ' : Wd} {H H' : Hp} {x : Xn} {cls : Value} {dd : Option Addr} (h : RX G ρ H x cls dd) (l : Le G ρ H ρ' H') : RX G ρ' H' x cls dd := by
  refine ⟨h.cls, ?_⟩
  rcases h.fs with h | ⟨d, us, e1, e2, r⟩
  · exact .inl h
  · exact .inr ⟨d, us, e1, l.tk d _ trivial e2, r.move l.mv⟩
section
variable {G : Gx} {X : Cx} {i : Option Nat} {e : Expr} {es : List Expr} {pos p : Pos}
theorem rfs_look {ρ : Wd} {H : Hp} : ∀ {fs : List (Nat × D)} {us : List (Str × V)} {f : Nat} {d : D}, RFs G ρ H fs us → fs.lookup f = some d → ∃ v, us.lookup (G.fld f) = some v ∧ RV G ρ H d v
  | _, _, _, _, .nil, h => by cases h
  | _, _, f, d, @RFs.cons _ _ _ n d0 v0 fs us r t, h => by
    by_cases q : f = n
    · subst q
      simp [List.lookup] at h
      subst h
      exact ⟨v0, by simp [List.lookup], r⟩
    · have b : (f == n) = false := by simpa using q
      have b2 : (G.fld f == G.fld n) = false := by
        simp only [beq_eq_false_iff_ne, ne_eq]
        exact fun z => q (G.inj _ _ z)
      simp [List.lookup, b] at h
      obtain ⟨v, h1, h2⟩ := rfs_look t h
      exact ⟨v, by simp [List.lookup, b2, h1], h2⟩
theorem sx_f {c f j : Nat} {C : Addr} {n : Str} {np : Pos} (T : XfC X.K C) (hc : G.clsv c = some (.ref C)) (hno : PySem.W.findIn X.K (.ref C) (G.fld f) = some none) (hN : X.N[j]? = some n) (hv : Vis X.env.scope n)
    (hb : attributeBase (.Name n np) (G.fld f) X.env (eval (.Name n np) X.env) = eval (.Name n np) X.env := by rfl) (hd : (n == ("__debug__" : Str)) = false := by decide) (hcd : (n == ("__classdict__" : Str)) = false := by decide) :
    SX G X (some j) (.Attribute (.Name n np) (G.fld f) pos) (xF c f) := by
  intro a oe cls dd pn z g
  refine PE.weak (pe_xf T hno z g (pe_var (X := X.suite a ((a, oe) :: pn)) (i := j) hN hv hd hcd) hb) fun σ H Q ⟨ρ, S, x, rl, rx, hs, q⟩ => ⟨.ref a, hs j rfl, rfl, ?_⟩
  unfold xF at q
  by_cases hx : x.c = c
  · rw [if_pos hx] at q
    have e1 := rx.cls
    rw [hx, hc] at e1
    cases e1
    refine ⟨rfl, ?_⟩
    cases hl : x.fs.lookup f with
    | none => rw [hl] at q; exact q.elim
    | some v =>
      rw [hl] at q
      rcases rx.fs with ⟨_, h2⟩ | ⟨d2, us, h1, h2, h3⟩
      · rw [h2] at hl
        cases hl
      · obtain ⟨y, k1, k2⟩ := rfs_look h3 hl
        exact ⟨d2, us, y, h1, h2, k1, q ρ H y Le.refl rl k2⟩
  · rw [if_neg hx] at q
    exact q.elim
end
structure Hd1 where
  c : Nat
  i : Option Nat
  m : MX
def hdIn (n : Nat) : Option Nat → Bool
  | none => true
  | some i => decide (i < n)
def hGo (isx : Nat → Nat → Option Bool) (x : Xn) (σ : En) (S : Store) : List Hd1 → RS
  | [] => .exc x σ S
  | h :: r => match isx x.c h.c with
    | some true => if hdIn σ.length h.i then (match h.m x S with | .ok d S1 => .rt d S1 | _ => .bad) else .bad
    | some false => hGo isx x σ S r
    | none => .bad
def sTry (isx : Nat → Nat → Option Bool) (b : MS) (hs : List Hd1) : MS := fun σ S => match b σ S with
  | .exc x σ1 S1 => hGo isx x σ1 S1 hs
  | r => r
inductive ClS (G : Gx) (X : Cx) : List ExceptHandler → List Hd1 → Prop
  | nil : ClS G X [] []
  | bare {x : Str} {c : Nat} {C : Value} {e : Expr} {m : MX} {np rp hp : Pos} {hs : List ExceptHandler} {l : List Hd1} (nm : Names X x C) (hc : G.clsv c = some C) (su : SX G X none e m) (r : ClS G X hs l) :
      ClS G X (.ExceptHandler (some (.Name x np)) none [.Return (some e) rp] hp :: hs) (⟨c, none, m⟩ :: l)
  | named {x n : Str} {c i : Nat} {C : Value} {e : Expr} {m : MX} {np rp hp : Pos} {hs : List ExceptHandler} {l : List Hd1} (nm : Names X x C) (hc : G.clsv c = some C) (hi : X.N[i]? = some n) (lo : X.env.kindOf n = some .local) (su : SX G X (some i) e m) (r : ClS G X hs l) :
      ClS G X (.ExceptHandler (some (.Name x np)) (some n) [.Return (some e) rp] hp :: hs) (⟨c, some i, m⟩ :: l)
section
variable {G : Gx} {X : Cx} {W : WX} {isx : Nat → Nat → Option Bool}
theorem clS_ok (ck : X.K = G.K) (hx : ∀ c1 c2 b v1 v2, isx c1 c2 = some b → G.clsv c1 = some v1 → G.clsv c2 = some v2 → PySem.W.exmOne G.K v1 v2 = some b) {hs : List ExceptHandler} {l : List Hd1} (h : ClS G X hs l) :
    ∃ l2, ClOk X hs l2 ∧ ∀ (D : Ends) (ρ : Wd) (H : Hp) (x : Xn) (σs : En) (σ : St) (S : Store) (cls : Value) (dd : Option Addr), Rl G ρ S H → RE G ρ H σs σ → RX G ρ H x cls dd → PostS G ρ H (hGo isx x σs S l) D W → wCl X.K W D.rt l2 cls dd σ H := by
  induction h with
  | nil => exact ⟨[], .nil, fun D ρ H x σs σ S cls dd rl re rx q => q ρ H σ cls dd Le.refl rl re rx⟩
  | @bare x c C e m np rp hp hs l nm hc su r ih =>
    obtain ⟨l2, k, ih⟩ := ih
    refine ⟨_, .bare nm (fun a oe cls d pn z f => su a oe cls d pn z f) k, fun D ρ H y σs σ S cls dd rl re rx q => ?_⟩
    unfold hGo at q
    cases hb : isx y.c c with
    | none => simp only [hb] at q; exact q.elim
    | some b =>
      refine ⟨b, by rw [ck]; exact hx _ _ _ _ _ hb rx.cls hc, fun e1 a ha => ?_, fun e1 => ?_⟩
      · subst e1
        simp only [hb, hdIn, if_true] at q
        refine ⟨ρ, S, y, rl, rx, (fun j z => nomatch z), ?_⟩
        cases hm : m y S with
        | ok d1 S1 => rw [hm] at q; exact q
        | exc x1 S1 => rw [hm] at q; exact q.elim
        | bad => rw [hm] at q; exact q.elim
      · subst e1
        simp only [hb] at q
        exact ih D ρ H y σs σ S cls dd rl re rx q
  | @named x n c i C e m np rp hp hs l nm hc hi lo su r ih =>
    obtain ⟨l2, k, ih⟩ := ih
    refine ⟨_, .named nm hi lo (fun a oe cls d pn z f => su a oe cls d pn z f) k, fun D ρ H y σs σ S cls dd rl re rx q => ?_⟩
    unfold hGo at q
    cases hb : isx y.c c with
    | none => simp only [hb] at q; exact q.elim
    | some b =>
      refine ⟨b, by rw [ck]; exact hx _ _ _ _ _ hb rx.cls hc, fun e1 a ha => ?_, fun e1 => ?_⟩
      · subst e1
        simp only [hb] at q
        by_cases hl : hdIn σs.length (some i) = true
        · rw [if_pos hl] at q
          have hl2 : i < σ.length := by rw [← re.len]; exact of_decide_eq_true hl
          refine ⟨ρ, S, y, rl, rx, (fun j z => ?_), ?_⟩
          · cases z
            exact List.getElem?_set_self hl2
          · cases hm : m y S with
            | ok d1 S1 => rw [hm] at q; exact q
            | exc x1 S1 => rw [hm] at q; exact q.elim
            | bad => rw [hm] at q; exact q.elim
        · rw [if_neg hl] at q
          exact q.elim
      · subst e1
        simp only [hb] at q
        exact ih D ρ H y σs σ S cls dd rl re rx q
theorem ss_try {body : List Stmt} {g : ExceptHandler} {hs : List ExceptHandler} {l : List Hd1} {b : MS} {pos : Pos} (cc : Cc G X W) (hx : ∀ c1 c2 b v1 v2, isx c1 c2 = some b → G.clsv c1 = some v1 → G.clsv c2 = some v2 → PySem.W.exmOne G.K v1 v2 = some b)
    (st : X.stack = X.env :: X.outer) (fr : X.env.frame = some X.env.locals) (hb : ∀ (W2 : WX) (pn : List (Addr × Obj)) (xe : Value → Shared → Prop), Cc G (X.tr pn xe) W2 → SSs G (X.tr pn xe) W2 body b) (hc : ClS G X (g :: hs) l) :
    SS G X W (.Try body (g :: hs) [] [] pos) (sTry isx b l) := by
  obtain ⟨l2, k, go⟩ := clS_ok cc.k hx hc
  refine PS.weak (ps_tryC cc.nd st fr cc.tk (tb := fun W2 => tms G W2 b) (fun W2 pn xe t1 t2 => hb W2 pn xe ⟨cc.k, t1, t2, cc.calm, cc.nd⟩) k) fun D σ H ⟨ρ, σs, S, rl, re, q⟩ => ⟨ρ, σs, S, rl, re, ?_⟩
  unfold sTry at q
  cases hr : b σs S with
  | exc x σ1 S1 =>
    rw [hr] at q
    exact fun ρ1 H1 σ2 cls dd l1 rl1 re1 rx1 => go D ρ1 H1 x σ1 σ2 S1 cls dd rl1 re1 rx1 (q.le l1)
  | nx σ1 S1 => rw [hr] at q; exact q
  | bk σ1 S1 => rw [hr] at q; exact q
  | ct σ1 S1 => rw [hr] at q; exact q
  | rt d S1 => rw [hr] at q; exact q
  | bad => rw [hr] at q; exact q
end
end L2.Mi

set_option Elab.async false
set_option linter.all false
set_option maxRecDepth 100000
set_option maxHeartbeats 4000000
namespace L2.Mi
open PySem PySem.Spec PyProof.Rows
abbrev NoG (A : Around) : Prop := A.guards = some []
/-- a def's promise where no guard stands -/
structure FnG (P : Program) (w : World) (K : Fg) (mg : Str → Option Value) (base : Heap) (cx : CXT) (k : Nat) (f : Addr) (fd : FuncData) (ps : List Str) (sp : Sp) : Prop where
  ln : ∀ vs H Q E, sp vs H Q E → vs.length = ps.length
  go : ∀ (A : Around) (out : List Env) (s : Shared) (H : Hp) (ar : Args) (us : List Value) (vs : List V) (Q : VK) (E : XK), NoG A → Room k A → Env0 P w K mg base A out s H → BindsTo s fd ar (ps.zip us) → Vals vs us → sp vs H Q E →
    codeAny (model P w) A (.call (.ref f) ar) (CR cx out P w H s Q E) s
section
variable {G : Gx} {P : Program} {w : World} {mg : Str → Option Value} {base : Heap} {N ps : List Str} {x qual : Str} {params : Arguments} {body : List Stmt} {scope : Scope} {dvs : List V} {kws : List (Str × V)} {f : Addr} {fd : FuncData} {k : Nat} {ms : MS}
/-- a callable's promise where no guard stands -/
def CalG (G : Gx) (P : Program) (w : World) (mg : Str → Option Value) (base : Heap) (k : Nat) (f : Addr) (m : FN) : Prop :=
  ∀ (A : Around) (out : List Env) (s : Shared) (H : Hp) (us : List Value) (vs : List V) (Q : VK) (E : XK), NoG A → Room k A → Env0 P w G.K mg base A out s H → Vals vs us → spG G m vs H Q E →
    codeAny (model P w) A (.call (.ref f) ⟨us, []⟩) (CR (L2.CX P w) out P w H s Q E) s
theorem calG0 : CalG G P w mg base k f (fun _ _ => .bad) := by
  rintro A out s H us vs Q E ng hr env rel ⟨ρ, S, es, rl, rv, p⟩
  exact p.elim
theorem Cal.toG {m : FN} (h : Cal G P w mg base k f m) : CalG G P w mg base k f m := fun A out s H us vs Q E _ => h A out s H us vs Q E
end
end L2.Mi

set_option Elab.async false
set_option linter.all false
set_option maxRecDepth 100000
set_option maxHeartbeats 4000000
namespace L2.Mi
open PySem PySem.Spec PyProof.Rows
def optAll {α β : Type} (f : α → Option β) : List α → Option (List β)
  | [] => some []
  | x :: xs => match f x, optAll f xs with
    | some y, some ys => some (y :: ys)
    | _, _ => none
/-- a value as plain data -/
def pyD (S : Store) : Nat → D → Option PyData
  | 0, _ => none
  | n + 1, d => match tupD d with
    | some ds => (optAll (pyD S n) ds).map .tuple
    | none => match listAt S d with
      | some ds => (optAll (pyD S n) ds).map .list
      | none => match d with
        | .non => some .none
        | .bl b => some (.bool b)
        | .int i => some (.int i)
        | .str x => some (.str ⟨x.toArray⟩)
        | _ => none
def reprOk (p : PyData) : Bool := p.showable && (!p.hasDict && (decide (p.shown.length ≤ sizeLine) && decide (p.depth ≤ 32)))
def reprF (n : Nat) : FN := fun xs S => match xs with
  | [d] => (match pyD S n d with
    | some p => if reprOk p then .ok (.str p.shown.cps.toList) S else .bad
    | none => .bad)
  | _ => .bad
section
variable {G : Gx} {X : Cx} {pins : List (Addr × Obj)} {σ : St} {H : Hp} {s : Shared}
theorem reads_all {S : Store} {ρ : Wd} {f : D → Option PyData} (h : ∀ d v u p, RV G ρ H d v → RelV v u → f d = some p → ∃ as, Reads s.heap u p as) :
    ∀ {ds : List D} {vs : List V} {us : List Value} {ps : List PyData}, RVs G ρ H ds vs → Vals vs us → optAll f ds = some ps → ∃ as, ReadsAll s.heap us ps as
  | _, _, _, _, .nil, .nil, e => by cases e; exact ⟨[], .nil⟩
  | d :: ds, v :: vs, u :: us, ps, .cons r1 r2, .cons k1 k2, e => by
    unfold optAll at e
    cases q1 : f d with
    | none => rw [q1] at e; cases e
    | some y =>
      cases q2 : optAll f ds with
      | none => rw [q1, q2] at e; cases e
      | some ys =>
        rw [q1, q2] at e
        cases e
        obtain ⟨a1, z1⟩ := h _ _ _ _ r1 k1 q1
        obtain ⟨a2, z2⟩ := reads_all (S := S) h r2 k2 q2
        exact ⟨_, .cons z1 z2⟩
theorem reads_of (hk : X.K = G.K) (I : Inv X pins σ H s) {ρ : Wd} {S : Store} (rl : Rl G ρ S H) : ∀ (n : Nat) (d : D) (v : V) (u : Value) (p : PyData), RV G ρ H d v → RelV v u → pyD S n d = some p → ∃ as, Reads s.heap u p as
  | 0, _, _, _, _, _, _, e => by cases e
  | n + 1, d, v, u, p, rv, r, e => by
    unfold pyD at e
    cases q : tupD d with
    | some ds =>
      rw [q] at e
      obtain ⟨a, xs, rfl, sq, rs⟩ := tupD_rel rv q
      obtain ⟨its, r2, ⟨o, g1, g2, m, g3⟩, _⟩ := I.tuple (by rw [hk]; exact sq)
      obtain rfl : u = Value.ref a := r
      cases q2 : optAll (pyD S n) ds with
      | none => simp only [q2] at e; cases e
      | some ps =>
        simp only [q2] at e
        cases e
        obtain ⟨as, z⟩ := reads_all (S := S) (reads_of hk I rl n) rs r2 q2
        exact ⟨as, .tuple g1 g2 g3 (by simpa using z)⟩
    | none =>
      rw [q] at e
      cases q1 : listAt S d with
      | some ds =>
        simp only [q1] at e
        obtain ⟨a, xs, rfl, sq, rs⟩ := listAt_rel rl rv q1
        obtain ⟨its, r2, ⟨o, m, g1, g2, _, g3⟩, _⟩ := I.list (by rw [hk]; exact sq)
        obtain rfl : u = Value.ref a := r
        cases q2 : optAll (pyD S n) ds with
        | none => simp only [q2] at e; cases e
        | some ps =>
          simp only [q2] at e
          cases e
          obtain ⟨as, z⟩ := reads_all (S := S) (reads_of hk I rl n) rs r2 q2
          exact ⟨_, .list g1 g2 g3 (by simpa using z)⟩
      | none =>
        simp only [q1] at e
        cases rv with
        | non => cases e; cases r; exact ⟨_, .none⟩
        | bl b => cases e; cases r; exact ⟨_, .bool b⟩
        | int i => cases e; obtain ⟨t, rfl⟩ := r; exact ⟨_, .int i t⟩
        | str y => cases e; obtain ⟨t, rfl⟩ := r; exact ⟨_, .str _ t⟩
        | _ => cases e
theorem fns_repr {W : WX} (n : Nat) (hk : X.K = G.K) (ng : NoG X.A) (hu : X.A.units + 64 < cLine) : FnS G X W (.builtin "repr") (reprF n) := by
  intro pins s σ H xs us Q ρ S ds I r rl rv p
  unfold reprF at p
  match ds, rv, p with
  | [d], .cons r1 .nil, p =>
    cases r with
    | cons k1 k2 =>
      cases k2
      cases q : pyD S n d with
      | none => simp only [q] at p; exact p.elim
      | some y =>
        simp only [q] at p
        by_cases hok : reprOk y = true
        · rw [if_pos hok] at p
          obtain ⟨o1, o2⟩ := ba hok
          obtain ⟨o2, o3⟩ := ba o2
          obtain ⟨o3, o4⟩ := ba o3
          have e3 := of_decide_eq_true o3
          have e4 := of_decide_eq_true o4
          have e2 : y.hasDict = false := by simpa using o2
          obtain ⟨as, z⟩ := reads_of hk I rl n d _ _ y r1 k1 q
          have fin : ∀ {h2 : Heap} {tk : Nat} {t : Tok}, (∀ b o, s.heap.get? b = some o → h2.get? b = some o) → EP X pins σ Q (.str y.shown t) { s with heap := h2, toks := tk } := fun kk => ⟨.str y.shown, H, I.kept (t' := _) kk, ⟨_, rfl⟩, post_ok p rl (rv_str _)⟩
          have nk : ∀ b o, s.heap.get? b = some o → s.heap.get? b = some o := fun _ _ z => z
          cases z with
          | none => exact PySem.P.repr_of_none (fin (h2 := s.heap) nk)
          | bool b =>
            have f2 := @fin s.heap (s.toks + 1) s.toks nk
            unfold PyData.shown at f2
            exact PySem.P.repr_of_bool f2
          | int i t =>
            have f2 := @fin s.heap (s.toks + 1) s.toks nk
            unfold PyData.shown at f2
            exact PySem.P.repr_of_int (by unfold PyData.showable at o1; exact of_decide_eq_true o1) f2
          | str x t =>
            have f2 := @fin s.heap (s.toks + 1) s.toks nk
            unfold PyData.shown at f2 e3
            exact PySem.P.repr_of_str f2 e3
          | list g1 g2 g3 g4 => exact repr_of_reads' (.list g1 g2 g3 g4) o1 (PyData.noDict_hsm e2) ng (by omega) nk (fun h2 t tk kk => fin kk) e3
          | tuple g1 g2 g3 g4 => exact repr_of_reads' (.tuple g1 g2 g3 g4) o1 (PyData.noDict_hsm e2) ng (by omega) nk (fun h2 t tk kk => fin kk) e3
          | dict g1 g2 g3 g4 g5 => cases e2
        · rw [if_neg hok] at p
          exact p.elim
  | [], _, p => exact p.elim
  | _ :: _ :: _, _, p => exact p.elim
end
end L2.Mi

set_option Elab.async false
set_option linter.all false
set_option maxRecDepth 100000
set_option maxHeartbeats 4000000
namespace L2.Mi
open PySem PySem.Spec PyProof.Rows
def flatD : D → Bool
  | .non => true
  | .bl _ => true
  | .int _ => true
  | .str _ => true
  | _ => false
/-- == of flat values -/
def eqD : D → D → Bool
  | .non, .non => true
  | .bl a, .bl b => a == b
  | .bl a, .int b => (if a then 1 else 0) == b
  | .int a, .bl b => a == (if b then 1 else 0)
  | .int a, .int b => a == b
  | .str a, .str b => a == b
  | _, _ => false
def seqD (S : Store) (d : D) : Option (List D) := match tupD d with
  | some ds => some ds
  | none => listAt S d
def inF (neg : Bool) : D → D → Store → Res D := fun x y S => match seqD S y with
  | some ds => if flatD x && ds.all flatD then .ok (.bl (if neg then !(ds.any fun z => eqD z x) else ds.any fun z => eqD z x)) S else .bad
  | none => match x, y with
    | .str [c], .str z => .ok (.bl (if neg then !decide (c ∈ z) else decide (c ∈ z))) S
    | _, _ => .bad
section
variable {G : Gx} {X : Cx} {W : WX} {ρ : Wd} {H : Hp} {S : Store}
theorem flat_rel {d : D} {v : V} (r : RV G ρ H d v) (h : flatD d = true) : flatV v = true := by
  cases r <;> first | rfl | cases h
theorem eq_rel {d e : D} {v u : V} (r1 : RV G ρ H d v) (r2 : RV G ρ H e u) (h1 : flatD d = true) (h2 : flatD e = true) : eqV v u = eqD d e := by
  cases r1 <;> (first | cases h1; done | skip) <;> cases r2 <;> (first | cases h2; done | rfl | skip)
  rename_i x y
  show ((⟨x.toArray⟩ : Str) == ⟨y.toArray⟩) = (x == y)
  by_cases h : x = y
  · subst h; simp
  · have n1 : ((⟨x.toArray⟩ : Str) == ⟨y.toArray⟩) = false := by
      refine beq_eq_false_iff_ne.mpr fun z => h ?_
      have z2 := congrArg (fun s : Str => s.cps.toList) z
      simpa using z2
    have n2 : (x == y) = false := beq_eq_false_iff_ne.mpr h
    rw [n1, n2]
theorem all_flat : ∀ {ds : List D} {vs : List V}, RVs G ρ H ds vs → ds.all flatD = true → vs.all flatV = true
  | _, _, .nil, _ => rfl
  | _, _, .cons r t, h => by
    rw [List.all_cons, Bool.and_eq_true] at h ⊢
    exact ⟨flat_rel r h.1, all_flat t h.2⟩
theorem any_eq {e : D} {u : V} (r2 : RV G ρ H e u) (h2 : flatD e = true) : ∀ {ds : List D} {vs : List V}, RVs G ρ H ds vs → ds.all flatD = true → (vs.any fun z => eqV z u) = ds.any fun z => eqD z e
  | _, _, .nil, _ => rfl
  | _, _, .cons r t, h => by
    rw [List.all_cons, Bool.and_eq_true] at h
    rw [List.any_cons, List.any_cons, eq_rel r r2 h.1 h2, any_eq r2 h2 t h.2]
theorem seqD_rel {d : D} {x : V} {ds : List D} (rl : Rl G ρ S H) (rv : RV G ρ H d x) (h : seqD S d = some ds) : ∃ a xs, x = .ref a ∧ (SqL G.K H a xs ∨ SqT G.K H a xs) ∧ RVs G ρ H ds xs := by
  unfold seqD at h
  cases q : tupD d with
  | some es =>
    simp only [q] at h
    cases h
    obtain ⟨a, xs, e, sq, r⟩ := tupD_rel rv q
    exact ⟨a, xs, e, .inr sq, r⟩
  | none =>
    simp only [q] at h
    obtain ⟨a, xs, e, sq, r⟩ := listAt_rel rl rv h
    exact ⟨a, xs, e, .inl sq, r⟩
theorem ops_inG {F : Value → Value → Sem Value} {neg : Bool} (cc : Cc G X W) (h1 : OpR X F (rIn X.K neg))
    (h2 : OpR X F (fun x y H Q => ∃ (c : Nat) (z : Str), x = .str ⟨#[c]⟩ ∧ y = .str z ∧ Q (.bl (if neg then !decide (c ∈ z.cps.toList) else decide (c ∈ z.cps.toList))) H)) : OpS G X W F (inF neg) := by
  intro pins s σ H x y v u Q ρ S d1 d2 I rx ry rl r1 r2 p
  unfold inF at p
  cases q : seqD S d2 with
  | some ds =>
    simp only [q] at p
    by_cases h : (flatD d1 && ds.all flatD) = true
    · rw [if_pos h] at p
      obtain ⟨f1, f2⟩ := ba h
      obtain ⟨a, xs, rfl, sq, rs⟩ := seqD_rel rl r2 q
      refine h1 pins s σ H _ _ v u Q I rx ry ⟨a, xs, rfl, by rw [cc.k]; exact sq, flat_rel r1 f1, all_flat rs f2, ?_⟩
      unfold inV
      rw [any_eq r1 f1 rs f2]
      exact post_ok p rl (.bl _)
    · rw [if_neg h] at p
      exact p.elim
  | none =>
    simp only [q] at p
    cases r1 with
    | str l =>
      match l, rx, p with
      | [c], rx, p =>
        cases r2 with
        | str z => exact h2 pins s σ H _ _ v u Q I rx ry ⟨c, _, rfl, rfl, by simpa using post_ok p rl (.bl _)⟩
        | _ => exact p.elim
      | [], _, p => cases r2 <;> exact p.elim
      | _ :: _ :: _, _, p => cases r2 <;> exact p.elim
    | _ => cases r2 <;> exact p.elim
theorem ops_in (cc : Cc G X W) : OpS G X W (compareOp .In) (inF false) := ops_inG cc op_in_seq fun pins s σ H x y v u Q I rx ry ⟨c, z, e1, e2, q⟩ => op_in_sign pins s σ H x y v u Q I rx ry ⟨c, z, e1, e2, q⟩
theorem ops_notIn (cc : Cc G X W) : OpS G X W (compareOp .NotIn) (inF true) := ops_inG cc op_notIn_seq fun pins s σ H x y v u Q I rx ry ⟨c, z, e1, e2, q⟩ => op_notIn_sign pins s σ H x y v u Q I rx ry ⟨c, z, e1, e2, q⟩
def repF : D → D → Store → Res D := fun x y S => match tupD x, y with
  | some ds, .int k => if ds ≠ [] ∧ 2 ≤ k ∧ k ≤ 1000 ∧ ds.length ≤ 1000 then .ok (.tup (List.replicate k.toNat ds).flatten) S else .bad
  | _, _ => .bad
theorem ops_rep (cc : Cc G X W) : OpS G X W (binaryOp .Mult) repF := by
  intro pins s σ H x y v u Q ρ S d1 d2 I rx ry rl r1 r2 p
  unfold repF at p
  cases q : tupD d1 with
  | none => simp only [q] at p; exact p.elim
  | some ds =>
    cases r2 with
    | int k =>
      simp only [q] at p
      by_cases h : ds ≠ [] ∧ 2 ≤ k ∧ k ≤ 1000 ∧ ds.length ≤ 1000
      · rw [if_pos h] at p
        obtain ⟨h1, h2, h3, h4⟩ := h
        obtain ⟨a, xs, rfl, sq, rs⟩ := tupD_rel r1 q
        have rep : ∀ n, RVs G ρ H (List.replicate n ds).flatten (List.replicate n xs).flatten := fun n => by
          induction n with
          | zero => exact .nil
          | succ n ih => rw [List.replicate_succ, List.replicate_succ]; exact rs.append ih
        refine op_repT pins s σ H _ _ v u Q I rx ry ⟨a, k, xs, rfl, rfl, by rw [cc.k]; exact sq, fun z => h1 ?_, h2, h3, by rw [← rs.length]; exact h4, fun b hb => post_new p rl hb (.tup upd_same ((rep k.toNat).mono (Le.new hb)))⟩
        have e := rs.length
        rw [z] at e
        exact List.eq_nil_of_length_eq_zero (by simpa using e)
      · rw [if_neg h] at p
        exact p.elim
    | _ => simp only [q] at p; exact p.elim
structure LenS (G : Gx) (X : Cx) (c : Nat) (g : FN) : Prop where
  ex : ∃ C f k, G.cls c = some C ∧ PySem.W.findIn X.K (.ref C) "__len__" = some (some (.ref f)) ∧ PySem.W.isFn X.K (.ref f) = true ∧ FnR X.prog X.w X.K X.mg X.base (L2.CX X.prog X.w) k f (spG G g) ∧ Room (k + 1) X.A
end
end L2.Mi

set_option Elab.async false
set_option linter.all false
set_option maxRecDepth 100000
set_option maxHeartbeats 4000000
namespace L2.Mi
open PySem PySem.Spec PyProof.Rows
theorem two_le (n : Nat) : 2 ≤ lv n + 1 := by rw [lv_eq]; omega
def lsN (S : Store) : D → Option (List D)
  | .lv ds => some ds
  | .ref i => (match S.get i with | some (.lst ds) => some ds | _ => none)
  | _ => none
def catR : D → D → Store → Res D := fun x y S => match lsN S x, lsN S y with
  | some a, some b => if a.length + b.length ≤ lim then .ok (.ref S.size) (S.push (.lst (a ++ b))) else .bad
  | _, _ => .bad
section
variable {G : Gx} {X : Cx} {W : WX} {ρ : Wd} {H : Hp} {S : Store}
theorem lsN_rel {d : D} {x : V} {ds : List D} (rl : Rl G ρ S H) (rv : RV G ρ H d x) (h : lsN S d = some ds) : ∃ a xs, x = .ref a ∧ H a = some (.lst xs) ∧ RVs G ρ H ds xs := by
  cases rv with
  | lv n ht hr => cases h; exact ⟨_, _, rfl, ht, hr⟩
  | @ref i a hi =>
    unfold lsN at h
    cases q : S.get i with
    | none => simp only [q] at h; cases h
    | some o =>
      cases o with
      | lst es =>
        simp only [q] at h
        cases h
        obtain ⟨u, h1, h2⟩ := rl.at hi q
        cases h2 with
        | lst r => exact ⟨a, _, rfl, h1, r⟩
      | _ => simp only [q] at h; cases h
  | _ => cases h
theorem ops_catR : OpS G X W (binaryOp .Add) catR := by
  intro pins s σ H x y v u Q ρ S d1 d2 I rx ry rl r1 r2 p
  unfold catR at p
  cases q1 : lsN S d1 with
  | none => simp only [q1] at p; exact p.elim
  | some a =>
    cases q2 : lsN S d2 with
    | none => simp only [q1, q2] at p; exact p.elim
    | some b =>
      simp only [q1, q2] at p
      by_cases hl : a.length + b.length ≤ lim
      · rw [if_pos hl] at p
        obtain ⟨a1, xs, rfl, h1, k1⟩ := lsN_rel rl r1 q1
        obtain ⟨a2, ys, rfl, h2, k2⟩ := lsN_rel rl r2 q2
        refine op_cat pins s σ H _ _ v u Q I rx ry ⟨a1, a2, xs, ys, rfl, rfl, h1, h2, by rw [← k1.length, ← k2.length]; exact lim_le hl, fun z hz => ?_⟩
        exact p (ρ.push z) _ _ (Le.push hz) (rl.push hz (.lst (k1.append k2))) (RV.new rl)
      · rw [if_neg hl] at p
        exact p.elim
end
/-- the class C's __init__ sets f -/
structure XInit (P : Program) (w : World) (K : Fg) (mg : Str → Option Value) (base : Heap) (C f : Str) : Prop where
  ex : ∃ fd ps, FnOk P w K mg base (L2.CX P w) 1 (He.ma K (He.ga K C) "__init__") fd ps (spX K f) ∧ Binds K fd ps []
section
variable {L : Lw} {K : Fg} {c : L.Says K} {X : Cx} {W : WX} {C f : Str}
theorem clsv_of (c : L.Says K) (ci : Nat) (h : L.xcl[ci]? = some C) : (L.gx K c).clsv ci = some (.ref (He.ga K C)) := by
  show (L.xcl[ci]?).map (fun C => Value.ref (He.ga K C)) = _
  rw [h]
  rfl
theorem noat_of (c : L.Says K) (i : Nat) (h : L.fa[i]? = some (.noat C f)) : PySem.W.findIn K (.ref (He.ga K C)) f = some none := He.eqO_ok (c.fact i h)
theorem ss_raiseL {e : Expr} {m : ME} {p pos pos2 : Pos} (ci fi i1 i2 i3 : Nat) (cc : Cc (L.gx K c) X W) (NS : Ns K X.mg) (hx : L.xcl[ci]? = some C) (h1 : L.fa[i1]? = some (.oex C)) (h2 : L.fa[i2]? = some (.noat C f)) (h3 : L.fa[i3]? = some (.glo C)) (hf : fldOf L.flds fi = f)
    (F : XInit X.prog X.w K X.mg X.base C f) (hr : Room 2 X.A) (hg : Gl X C) (he : SE (L.gx K c) X W e m)
    (hdb : (C == ("__debug__" : Str)) = false := by decide) (hs : starEach [e] X.env = (false, eval e X.env) :: starEach [] X.env := by rfl) (hpl : (backTo pos (starEach [] X.env)).any (·.1) = false := by rfl) :
    SS (L.gx K c) X W (.Raise (some (.Call (.Name C p) [e] [] pos)) none pos2) (sRaise ci fi m) := by
  have hk : X.K = K := cc.k
  subst hf
  obtain ⟨fd, ps, F, hb⟩ := F.ex
  have t1 : XC X.K (He.ga K C) (He.ma K (He.ga K C) "__init__") := by rw [hk]; exact xc_of c i1 h1
  have t2 : PySem.W.findIn X.K (.ref (He.ga K C)) (fldOf L.flds fi) = some none := by rw [hk]; exact noat_of c i2 h2
  have t3 : FnOk X.prog X.w X.K X.mg X.base (L2.CX X.prog X.w) 1 (He.ma K (He.ga K C) "__init__") fd ps (spX X.K (fldOf L.flds fi)) := by rw [hk]; exact F
  exact ss_raise (G := L.gx K c) (k := 1) cc t1 (clsv_of c ci hx) t2 t3 hr (by rw [hk]; exact hb) hg (NS.glo c i3 h3) he hdb hs hpl
theorem sx_fL {j : Nat} {n : Str} {np pos : Pos} (ci fi i1 i2 : Nat) (hk : X.K = K) (hx : L.xcl[ci]? = some C) (h1 : L.fa[i1]? = some (.oex C)) (h2 : L.fa[i2]? = some (.noat C f)) (hf : fldOf L.flds fi = f) (hN : X.N[j]? = some n) (hv : Vis X.env.scope n)
    (hb : attributeBase (.Name n np) f X.env (eval (.Name n np) X.env) = eval (.Name n np) X.env := by rfl) (hd : (n == ("__debug__" : Str)) = false := by decide) (hcd : (n == ("__classdict__" : Str)) = false := by decide) :
    SX (L.gx K c) X (some j) (.Attribute (.Name n np) f pos) (xF ci fi) := by
  subst hf
  have t1 : XfC X.K (He.ga K C) := by rw [hk]; exact (xc_of c i1 h1).x
  have t2 : PySem.W.findIn X.K (.ref (He.ga K C)) (fldOf L.flds fi) = some none := by rw [hk]; exact noat_of c i2 h2
  exact sx_f (G := L.gx K c) (f := fi) t1 (clsv_of c ci hx) t2 hN hv hb hd hcd
def Fm.exq (A B : Str) : Fm → Option Bool
  | .exm A2 B2 b => if A2 = A ∧ B2 = B then some b else none
  | _ => none
def Lw.isx (L : Lw) (i j : Nat) : Option Bool := match L.xcl[i]?, L.xcl[j]? with
  | some A, some B => L.fa.findSome? (Fm.exq A B)
  | _, _ => none
theorem isx_ok (c : L.Says K) : ∀ c1 c2 b v1 v2, L.isx c1 c2 = some b → (L.gx K c).clsv c1 = some v1 → (L.gx K c).clsv c2 = some v2 → PySem.W.exmOne (L.gx K c).K v1 v2 = some b := by
  intro c1 c2 b v1 v2 h h1 h2
  unfold Lw.isx at h
  cases q1 : L.xcl[c1]? with
  | none => rw [q1] at h; cases h
  | some A =>
    cases q2 : L.xcl[c2]? with
    | none => rw [q1, q2] at h; cases h
    | some B =>
      simp only [q1, q2] at h
      rw [clsv_of c c1 q1] at h1
      rw [clsv_of c c2 q2] at h2
      cases h1
      cases h2
      obtain ⟨fm, hm, hq⟩ := List.exists_of_findSome?_eq_some h
      cases fm with
      | exm A2 B2 b2 =>
        have hq : (if A2 = A ∧ B2 = B then some b2 else none) = some b := hq
        by_cases z : A2 = A ∧ B2 = B
        · rw [if_pos z] at hq
          cases hq
          obtain ⟨rfl, rfl⟩ := z
          have k : (Fm.exm A2 B2 b).ok K = true := List.all_eq_true.mp (ba c.all).1 _ hm
          exact of_decide_eq_true k
        · rw [if_neg z] at hq
          cases hq
      | _ => cases hq
def isxTab (T : List (Nat × Nat × Bool)) (i j : Nat) : Option Bool := (T.find? fun q => q.1 == i && q.2.1 == j).map (·.2.2)
theorem isxTab_ok (c : L.Says K) {T : List (Nat × Nat × Bool)} (h : (T.all fun q => L.isx q.1 q.2.1 == some q.2.2) = true) :
    ∀ c1 c2 b v1 v2, isxTab T c1 c2 = some b → (L.gx K c).clsv c1 = some v1 → (L.gx K c).clsv c2 = some v2 → PySem.W.exmOne (L.gx K c).K v1 v2 = some b := by
  intro c1 c2 b v1 v2 e
  unfold isxTab at e
  cases q : T.find? fun q => q.1 == c1 && q.2.1 == c2 with
  | none => rw [q] at e; cases e
  | some z =>
    rw [q] at e
    have hb : z.2.2 = b := by simpa using e
    have hz := List.find?_some q
    obtain ⟨e1, e2⟩ := ba hz
    have k := eq_of_beq (List.all_eq_true.mp h z (List.mem_of_find?_eq_some q))
    rw [eq_of_beq e1, eq_of_beq e2, hb] at k
    exact isx_ok c c1 c2 b v1 v2 k
end
end L2.Mi

set_option Elab.async false
set_option linter.all false
set_option maxRecDepth 100000
set_option maxHeartbeats 1000000
namespace L2.Mi
open PySem
def forL (g : MG) (b : MS) : List D → MS
  | [] => fun σ S => .nx σ S
  | d :: ds => fun σ S => match g d σ S with
    | .ok σ1 S1 => (match b σ1 S1 with
      | .nx σ2 S2 => forL g b ds σ2 S2
      | .ct σ2 S2 => forL g b ds σ2 S2
      | .bk σ2 S2 => .nx σ2 S2
      | r => r)
    | _ => .bad
theorem forL_cons {g : MG} {b : MS} {d : D} {ds : List D} {σ : En} {S : Store} : forL g b (d :: ds) σ S = (match g d σ S with
    | .ok σ1 S1 => (match b σ1 S1 with
      | .nx σ2 S2 => forL g b ds σ2 S2
      | .ct σ2 S2 => forL g b ds σ2 S2
      | .bk σ2 S2 => .nx σ2 S2
      | r => r)
    | _ => .bad) := (rfl)
theorem forGo_list {src : Src} {g : MG} {b : MS} {ds : List D} (h : ∀ k S, src k S = some ds[k]?) : ∀ (n k : Nat) (σ : En) (S : Store), ds.length < n + k → k ≤ ds.length → forGo src g b n k σ S = forL g b (ds.drop k) σ S
  | 0, k, σ, S, h1, h2 => absurd h1 (by omega)
  | n + 1, k, σ, S, h1, h2 => by
    unfold forGo
    rw [h k S]
    by_cases hk : k < ds.length
    · rw [List.getElem?_eq_getElem hk, List.drop_eq_getElem_cons hk, forL_cons]
      simp only
      cases g ds[k] σ S with
      | ok σ1 S1 =>
        simp only
        cases b σ1 S1 with
        | nx σ2 S2 => exact forGo_list h n (k + 1) σ2 S2 (by omega) (by omega)
        | ct σ2 S2 => exact forGo_list h n (k + 1) σ2 S2 (by omega) (by omega)
        | _ => rfl
      | _ => rfl
    · rw [List.getElem?_eq_none (by omega), List.drop_eq_nil_of_le (by omega)]
      rfl
/-- a value's items -/
def itsD : D → Option (List D)
  | .tup ds => some ds
  | .kt ds => some ds
  | .lv ds => some ds
  | .fl ds => some ds
  | _ => none
theorem src_its {m : ME} {σ : En} {S S1 : Store} {d : D} {ds : List D} (ha : m σ S = .ok d S1) (hd : itsD d = some ds) : ∃ src, iSeq m σ S = .ok src S1 ∧ ∀ k S, src k S = some ds[k]? := by
  unfold iSeq
  rw [ha, bind_ok']
  cases d <;> cases hd <;> exact ⟨_, rfl, fun k S => rfl⟩
def ups (i : Int) (n : Nat) : List D := (List.range n).map fun (k : Nat) => D.int (i + (k : Int))
theorem ups_len {i : Int} {n : Nat} : (ups i n).length = n := by unfold ups; simp
theorem ups_get {i : Int} {n k : Nat} : (if k < n then some (D.int (i + (k : Int))) else none) = (ups i n)[k]? := by
  unfold ups
  rw [List.getElem?_map]
  by_cases h : k < n
  · rw [if_pos h, List.getElem?_range h]; rfl
  · rw [if_neg h, List.getElem?_eq_none (by simpa using h)]; rfl
theorem i62_of {j : Int} (h0 : -1000000 < j) (h1 : j < 1000000) : i62 j = true := by
  unfold i62
  rw [Bool.and_eq_true, decide_eq_true_eq, decide_eq_true_eq]
  constructor <;> omega
theorem src_r1 {a : ME} {σ : En} {S S1 : Store} {j : Int} (ha : a σ S = .ok (.int j) S1) (h0 : -1000000 < j) (h1 : j < 1000000) : ∃ src, iRange1 a σ S = .ok src S1 ∧ ∀ k S, src k S = some (ups 0 j.toNat)[k]? := by
  unfold iRange1
  rw [ha, bind_ok']
  simp only [i62_of h0 h1, if_true]
  exact ⟨_, rfl, fun k S => by rw [← ups_get]⟩
end L2.Mi

set_option Elab.async false
set_option linter.all false
set_option maxRecDepth 100000
set_option maxHeartbeats 1000000
namespace L2.Mi
open PySem
mutual
def noRef : D → Bool
  | .ref _ => false
  | .tup ds => noRefs ds
  | .kt ds => noRefs ds
  | .ex _ _ ds => noRefs ds
  | .cx _ => true
  | .lm _ => true
  | .lv ds => noRefs ds
  | .fl ds => noRefs ds
  | .dv _ _ => false
  | .non => true
  | .bl _ => true
  | .int _ => true
  | .str _ => true
  | .ty _ => true
  | .cl _ => true
  | .fn _ => true
def noRefs : List D → Bool
  | [] => true
  | d :: ds => noRef d && noRefs ds
end
def noRefF : List (Nat × D) → Bool
  | [] => true
  | q :: r => noRef q.2 && noRefF r
section
variable {G : Gx} {ρ ρ2 : Wd} {H : Hp}
mutual
theorem RV.other (h : ∀ a, ρ.no a → ρ2.no a) : ∀ {d : D} {v : V}, noRef d = true → RV G ρ H d v → RV G ρ2 H d v
  | _, _, _, .non => .non
  | _, _, _, .bl b => .bl b
  | _, _, _, .int i => .int i
  | _, _, _, .str x => .str x
  | _, _, _, .ty n => .ty n
  | _, _, _, .cl q => .cl q
  | _, _, _, .fn q => .fn q
  | _, _, z, .ref _ => nomatch z
  | _, _, z, .tup q r => .tup q (RVs.other h (by simpa [noRef] using z) r)
  | _, _, z, .fl q r => .fl q (RVs.other h (by simpa [noRef] using z) r)
  | _, _, z, .kt q r => .kt q (RVs.other h (by simpa [noRef] using z) r)
  | _, _, _, .cx e => .cx e
  | _, _, _, .lm e q k => .lm e q k
  | _, _, z, .ex e q k r => .ex e q k (RVs.other h (by simpa [noRef] using z) r)
  | _, _, z, .lv n q r => .lv (h _ n) q (RVs.other h (by simpa [noRef] using z) r)
  | _, _, z, .dvK _ _ _ => by simp [noRef] at z
  | _, _, z, .dvT _ _ _ => by simp [noRef] at z
theorem RVs.other (h : ∀ a, ρ.no a → ρ2.no a) : ∀ {ds : List D} {vs : List V}, noRefs ds = true → RVs G ρ H ds vs → RVs G ρ2 H ds vs
  | _, _, _, .nil => .nil
  | _, _, z, .cons r t => by
    simp only [noRefs, Bool.and_eq_true] at z
    exact .cons (RV.other h z.1 r) (RVs.other h z.2 t)
end
theorem RFs.other (h : ∀ a, ρ.no a → ρ2.no a) : ∀ {fs : List (Nat × D)} {us : List (Str × V)}, noRefF fs = true → RFs G ρ H fs us → RFs G ρ2 H fs us
  | _, _, _, .nil => .nil
  | _, _, z, .cons r t => by
    simp only [noRefF, Bool.and_eq_true] at z
    exact .cons (r.other h z.1) (RFs.other h z.2 t)
/-- all that stands is hidden -/
def Wd.all (ρ : Wd) : Wd := ⟨[], ρ.v ++ ρ.h⟩
theorem Wd.all_no {a : Addr} (h : ρ.no a) : ρ.all.no a := ⟨by simp [Wd.all], by simp [Wd.all, h.1, h.2]⟩
theorem Rl.some {S : Store} (r : Rl G ρ S H) {a : Addr} (h : a ∈ ρ.v) : SmO (H a) := by
  obtain ⟨i, hl, e⟩ := List.getElem_of_mem h
  obtain ⟨o, ho⟩ := Store.all (S := S) i (by rw [← r.len]; exact hl)
  obtain ⟨b, u, h1, h2, h3⟩ := r.ob i o ho
  rw [List.getElem?_eq_getElem hl, e] at h1
  cases h1
  rw [h2]
  exact h3.ntb
theorem Rl.all {S : Store} (r : Rl G ρ S H) : Rl G ρ.all ⟨[]⟩ H := by
  refine ⟨rfl, List.nodup_nil, fun a ha => ⟨by simp [Wd.all], ?_⟩, fun i o h => (nomatch (show (none : Option Ob) = Option.some o from h)), r.tb⟩
  rcases List.mem_append.mp ha with h | h
  · exact r.some h
  · exact (r.hh a h).2
theorem Le.back {H2 : Hp} {ρ1 : Wd} (l : Le G ρ.all H ρ1 H2) : Le G ρ H ρ H2 := by
  refine ⟨List.prefix_refl _, rfl, l.tk, fun a xs n h => l.kl a xs (Wd.all_no n) h, fun a u n k h => l.kp a u (Wd.all_no n) k h, fun a n h => ⟨n, (l.ni a (Wd.all_no n) h).2⟩, fun a ha h => l.kh a ?_ h, l.kz⟩
  exact List.mem_append_right _ ha
theorem Rl.back {S S1 : Store} {H2 : Hp} {ρ1 : Wd} (r : Rl G ρ S H) (l : Le G ρ.all H ρ1 H2) (r1 : Rl G ρ1 S1 H2) : Rl G ρ S H2 := by
  have lb := l.back
  refine ⟨r.len, r.nd, fun a ha => ⟨(r.hh a ha).1, by rw [lb.kh a ha (r.hh a ha).2.ne]; exact (r.hh a ha).2⟩, fun i o e => ?_, r1.tb⟩
  obtain ⟨a, u, h1, h2, h3⟩ := r.ob i o e
  refine ⟨a, u, h1, ?_, h3.mono lb⟩
  rw [l.kh a (List.mem_append_left _ (List.mem_of_getElem? h1)) (by rw [h2]; simp)]
  exact h2
end
end L2.Mi

set_option Elab.async false
set_option linter.all false
set_option maxRecDepth 100000
set_option maxHeartbeats 1000000
namespace L2.Mi
open PySem PySem.Spec PyProof.Rows
def isStr (d : D) (_ : Store) : Bool := match d with | .str _ => true | _ => false
section
variable {G : Gx} {X : Cx} {W : WX}
def strsD : List D → Option (List (List Nat))
  | [] => some []
  | .str x :: ds => (strsD ds).map (x :: ·)
  | _ :: _ => none
def totL (ys : List (List Nat)) : Nat := (ys.map List.length).sum
def joinF : D → List D → Store → Res D := fun o xs S => match o, xs with
  | .str a, [l] => (match seqD S l with
    | some ds => (match strsD ds with
      | some ys => if totL ys + ys.length * a.length ≤ 1000000 then .ok (.str (TL.joinL a ys)) S else .bad
      | none => .bad)
    | none => .bad)
  | _, _ => .bad
end
end L2.Mi

set_option Elab.async false
set_option linter.all false
set_option maxRecDepth 100000
set_option maxHeartbeats 1000000
namespace L2.Mi
open PySem PySem.Spec PyProof.Rows
def eqKD : D → D → Bool
  | .int i, .int j => i == j
  | .str x, .str y => x == y
  | _, _ => false
def valD (kvs : List (D × D)) (k : D) : Option D := (kvs.find? fun q => eqKD q.1 k).map (·.2)
theorem eqKD_key {d e : D} {k j : Key} (h1 : keyD d = some k) (h2 : keyD e = some j) : eqKD d e = decide (k = j) := by
  cases d with
  | int a =>
    cases h1
    cases e with
    | int b => cases h2; by_cases h : a = b <;> simp [eqKD, h]
    | str y => cases h2; rfl
    | _ => cases h2
  | str x =>
    cases h1
    cases e with
    | int b => cases h2; rfl
    | str y =>
      cases h2
      by_cases h : x = y
      · subst h; simp [eqKD]
      · have n1 : (x == y) = false := beq_eq_false_iff_ne.mpr h
        show (x == y) = _
        rw [n1]
        symm
        refine decide_eq_false fun z => h ?_
        have z2 := congrArg (fun s : Str => s.cps.toList) (Sum.inr.inj z)
        simpa using z2
    | _ => cases h2
  | _ => cases h1
section
variable {G : Gx} {ρ : Wd} {H : Hp}
theorem valD_rel {d : D} {k : Key} (hk : keyD d = some k) : ∀ {kvs : List (D × D)} {kus : List (Key × V)}, RKs G ρ H kvs kus → (∀ v, valD kvs d = some v → ∃ u, valV kus k = some u ∧ RV G ρ H v u) ∧ (valD kvs d = none → valV kus k = none)
  | _, _, .nil => ⟨(fun v h => nomatch h), fun _ => rfl⟩
  | _, _, @RKs.cons _ _ _ e f j u kvs kus h r t => by
    have ih := valD_rel hk t
    have eq := eqKD_key h hk
    unfold valD valV at ih ⊢
    by_cases z : j = k
    · have e1 : eqKD e d = true := by rw [eq]; exact decide_eq_true z
      simp only [List.find?_cons, e1, decide_eq_true z, Option.map_some, Option.some.injEq]
      exact ⟨fun v hv => ⟨u, rfl, hv ▸ r⟩, fun hv => nomatch hv⟩
    · have e1 : eqKD e d = false := by rw [eq]; exact decide_eq_false z
      simp only [List.find?_cons, e1, decide_eq_false z]
      exact ih
theorem RKs.append : ∀ {a b : List (D × D)} {x y : List (Key × V)}, RKs G ρ H a x → RKs G ρ H b y → RKs G ρ H (a ++ b) (x ++ y)
  | _, _, _, _, .nil, r => r
  | _, _, _, _, .cons h r t, s => .cons h r (RKs.append t s)
theorem RKs.len : ∀ {a : List (D × D)} {x : List (Key × V)}, RKs G ρ H a x → a.length = x.length
  | _, _, .nil => rfl
  | _, _, .cons _ _ t => by simp [RKs.len t]
theorem key_rel {d : D} {x : V} {k : Key} (hk : keyD d = some k) (r : RV G ρ H d x) : x = kV k := by
  cases r with
  | int i => cases hk; rfl
  | str y => cases hk; rfl
  | _ => cases hk
end
end L2.Mi

set_option Elab.async false
set_option linter.all false
set_option maxRecDepth 100000
set_option maxHeartbeats 1000000
set_option Elab.async false
set_option linter.all false
set_option maxRecDepth 100000
set_option maxHeartbeats 1000000
set_option Elab.async false
set_option linter.all false
set_option maxRecDepth 100000
set_option maxHeartbeats 1000000
namespace L2.Mi
open PySem PySem.Spec PyProof.Rows
theorem dic_ho {G : Gx} {ρ : Wd} {H : Hp} {t : Bool} {kvs : List (D × D)} {u : HO} (h : RO G ρ H (.dic t kvs) u) : NoT u ∧ Mut (some u) ∧ ∀ o, ¬ IsT (.frz o u) := by
  cases h with
  | dK _ => exact ⟨trivial, trivial, fun _ z => z⟩
  | dT _ => exact ⟨trivial, trivial, fun _ z => z⟩
section
variable {G : Gx} {ρ ρ1 : Wd} {H H1 : Hp} {S S1 : Store} {n : Nat} {a : Addr} {u : HO} {od : Obj}
theorem unlock_le (rl : Rl G ρ S H) (hi : ρ.v[n]? = some a) (hu : H a = some u) (nt : NoT u) (l : Le G ρ (L2.upd H a (.frz od u)) ρ1 H1) : Le G ρ H ρ1 (L2.upd H1 a u) := by
  have am : a ∈ ρ.v := List.mem_of_getElem? hi
  have nb : ∀ b, ρ.no b → b ≠ a := fun b h z => h.1 (by rw [z]; exact am)
  refine ⟨l.pre, l.hid, fun b w t h => ?_, fun b xs nn h => ?_, fun b w nn k h => ?_, fun b nn h => ?_, fun b hb h => ?_, fun b o w h => ?_⟩
  · have ne : b ≠ a := fun z => by
      rw [z, hu] at h
      cases h
      exact nt.no t
    rw [upd_ne ne]
    exact l.tk b w t (by rw [upd_ne ne]; exact h)
  · rw [upd_ne (nb b nn)]
    exact l.kl b xs nn (by rw [upd_ne (nb b nn)]; exact h)
  · have h2 : Rd (L2.upd H a (.frz od u)) b w := by
      rcases h with h | ⟨o, h⟩
      · exact .inl (by rw [upd_ne (nb b nn)]; exact h)
      · exact .inr ⟨o, by rw [upd_ne (nb b nn)]; exact h⟩
    rcases l.kp b w nn k h2 with h | ⟨o, h⟩
    · exact .inl (by rw [upd_ne (nb b nn)]; exact h)
    · exact .inr ⟨o, by rw [upd_ne (nb b nn)]; exact h⟩
  · have z := l.ni b nn (by rw [upd_ne (nb b nn)]; exact h)
    exact ⟨z.1, by rw [upd_ne (nb b nn)]; exact z.2⟩
  · have ne : b ≠ a := fun z => rl.nh hi (by rw [← z]; exact hb)
    rw [upd_ne ne]
    have z := l.kh b hb (by rw [upd_ne ne]; exact h)
    rw [upd_ne ne] at z
    exact z
  · have ne : b ≠ a := fun z => by
      rw [z, hu] at h
      cases h
      exact nt
    rw [upd_ne ne]
    exact l.kz b o w (by rw [upd_ne ne]; exact h)
theorem unlock_rl {o : Ob} (r1 : Rl G ρ1 S1 H1) (hi : ρ1.v[n]? = some a) (h1 : H1 a = some (.frz od u)) (it : ¬ IsT (.frz od u)) (ro : RO G ρ1 (L2.upd H1 a u) o u) : Rl G ρ1 (S1.set n o) (L2.upd H1 a u) := by
  have am : a ∈ ρ1.v := List.mem_of_getElem? hi
  have nb : ∀ b, ρ1.no b → b ≠ a := fun b h z => h.1 (by rw [z]; exact am)
  have mv : Mv G ρ1 H1 ρ1 (L2.upd H1 a u) := ⟨fun _ _ h => h, fun b w t h => by
      rw [upd_ne (show b ≠ a from fun z => by rw [z, h1] at h; cases h; exact it t)]
      exact h, fun b xs nn h => ⟨nn, by rw [upd_ne (nb b nn)]; exact h⟩, fun b w nn k h => ⟨nn, by
      rcases h with h | ⟨q, h⟩
      · exact .inl (by rw [upd_ne (nb b nn)]; exact h)
      · exact .inr ⟨q, by rw [upd_ne (nb b nn)]; exact h⟩⟩⟩
  refine ⟨by rw [Store.size_set]; exact r1.len, r1.nd, fun b hb => ⟨(r1.hh b hb).1, ?_⟩, fun j ob e => ?_, tabs_upd r1.tb h1 (fun z => z)⟩
  · rw [upd_ne (show b ≠ a from fun z => r1.nh hi (by rw [← z]; exact hb))]
    exact (r1.hh b hb).2
  · by_cases hj : n = j
    · subst hj
      have hl : n < S1.size := by rw [← r1.len]; exact (List.getElem?_eq_some_iff.mp hi).1
      rw [Store.get_set_same hl] at e
      cases e
      exact ⟨a, u, hi, upd_same, ro⟩
    · rw [Store.get_set_ne hj] at e
      obtain ⟨b, w, k1, k2, k3⟩ := r1.ob j ob e
      exact ⟨b, w, k1, by rw [upd_ne (show b ≠ a from fun z => hj (nd_get r1.nd hi (by rw [← z]; exact k1)))]; exact k2, k3.move mv⟩
end
end L2.Mi

set_option Elab.async false
set_option linter.all false
set_option maxRecDepth 100000
set_option maxHeartbeats 1000000
namespace L2.Mi
open PySem PySem.Spec PyProof.Rows
def iKy (m : ME) : MI := fun σ S => (m σ S).bind fun d S1 => match d with
  | .ref n => (match S1.get n with
    | some (.lck (.dic false kvs)) => .ok (fun k _ => some ((kvs[k]?).map (·.1))) S1
    | _ => .bad)
  | _ => .bad
section
variable {G : Gx} {X : Cx} {W : WX} {e tg : Expr} {m : ME}
theorem RKs.get {ρ : Wd} {H : Hp} : ∀ {kvs : List (D × D)} {kus : List (Key × V)} {i : Nat} {q : D × D}, RKs G ρ H kvs kus → kvs[i]? = some q → ∃ k v, kus[i]? = some (k, v) ∧ keyD q.1 = some k
  | _, _, _, _, .nil, h => by simp at h
  | _, _, 0, _, .cons (k := k) (v := v) h r t, q => by simp at q; subst q; exact ⟨k, v, rfl, h⟩
  | _, _, i + 1, q, .cons h r t, z => by
    obtain ⟨k, v, h1, h2⟩ := RKs.get (i := i) (q := q) t (by simpa using z)
    exact ⟨k, v, by simpa using h1, h2⟩
theorem rv_key {ρ : Wd} {H : Hp} {d : D} {k : Key} (h : keyD d = some k) : RV G ρ H d (kV k) := by
  cases d with
  | int i => cases h; exact .int i
  | str x => cases h; exact .str x
  | _ => cases h
theorem si_ky (h : SE G X W e m) : SI G X W tg e (iKy m) := by
  refine si_of (pi_keys h) fun σ H R ρ σs S rl re p => ?_
  refine ⟨ρ, σs, S, rl, re, PostR.bind (R := RV G) (r := m σs S) p fun ρ1 H1 S1 d x l1 rl1 rv1 p1 => ?_⟩
  cases rv1 with
  | @ref n a hi =>
    cases q : S1.get n with
    | none => simp only [q] at p1; exact p1.elim
    | some ob =>
      cases ob with
      | lck o2 =>
        cases o2 with
        | dic t kvs =>
          cases t with
          | true => simp only [q] at p1; exact p1.elim
          | false =>
            simp only [q] at p1
            obtain ⟨u, hu, ro⟩ := rl1.at hi q
            cases ro with
            | @lck _ ob u2 ro =>
              cases ro with
              | @dK _ kus r =>
                refine ⟨a, ob, rfl, .inl ⟨kus, hu, p1 ρ1 H1 _ Le.refl rl1 ?_⟩⟩
                intro ρ2 S2 H2 mv kz rl2 i
                refine ⟨fun d hd => ?_, fun hd => ?_⟩
                · have hd : some ((kvs[i]?).map (·.1)) = some (some d) := hd
                  cases q3 : kvs[i]? with
                  | none => rw [q3] at hd; cases hd
                  | some z =>
                    rw [q3] at hd
                    cases hd
                    obtain ⟨k, v, h1, h2⟩ := RKs.get r q3
                    refine ⟨⟨kz a _ _ hu, (List.getElem?_eq_some_iff.mp h1).1⟩, fun y H3 hy => ?_⟩
                    obtain ⟨e1, k2, v2, h3, h4⟩ := hy
                    rw [h1] at h3
                    cases h3
                    subst e1 h4
                    exact ⟨Le.refl, rl2, rv_key h2⟩
                · have hd : some ((kvs[i]?).map (·.1)) = some none := hd
                  cases q3 : kvs[i]? with
                  | some z => rw [q3] at hd; cases hd
                  | none => exact ⟨kz a _ _ hu, by rw [← r.len]; exact List.getElem?_eq_none_iff.mp q3⟩
        | _ => simp only [q] at p1; exact p1.elim
      | _ => simp only [q] at p1; exact p1.elim
  | _ => exact p1.elim
end
end L2.Mi

set_option Elab.async false
set_option linter.all false
set_option maxRecDepth 100000
set_option maxHeartbeats 1000000
namespace L2.Mi
open PySem PySem.Spec PyProof.Rows
def dicL (S : Store) : D → Option (List (D × D))
  | .ref a => (match S.get a with | some (.lck (.dic false kvs)) => some kvs | _ => none)
  | _ => none
def dgetL : D → D → Store → Res D := fun x y S => match dicL S x, keyD y with
  | some kvs, some _ => (match valD kvs y with | some v => .ok v S | none => .bad)
  | _, _ => .bad
section
variable {G : Gx} {ρ : Wd} {H : Hp} {S : Store} {X : Cx} {W : WX} {o i : Expr} {mo me : ME} {pos : Pos}
theorem dicL_rel {d : D} {x : V} {kvs : List (D × D)} (rl : Rl G ρ S H) (rv : RV G ρ H d x) (h : dicL S d = some kvs) : ∃ a kus, x = .ref a ∧ Rd H a (.dK kus) ∧ RKs G ρ H kvs kus := by
  cases rv with
  | @ref n a hi =>
    have h : (match S.get n with | some (.lck (.dic false kvs)) => some kvs | _ => none) = some kvs := h
    cases q : S.get n with
    | none => rw [q] at h; cases h
    | some ob =>
      rw [q] at h
      cases ob with
      | lck o2 =>
        cases o2 with
        | dic t ks =>
          cases t with
          | true => cases h
          | false =>
            cases h
            obtain ⟨u, hu, ro⟩ := rl.at hi q
            cases ro with
            | @lck _ ob u2 ro =>
              cases ro with
              | dK r => exact ⟨a, _, rfl, .inr ⟨ob, hu⟩, r⟩
        | _ => cases h
      | _ => cases h
  | _ => cases h
theorem se_dgetL (hu : X.A.units + 64 < cLine) (ho : SE G X W o mo) (hi : SE G X W i me) (hs : NoSl i := by intro _ _; rfl) : SE G X W (.Subscript o i pos) (eBin dgetL mo me) := by
  refine se_of (pe_dget (by omega) ho hi hs) fun σ H Q ρ σs S rl re p => ?_
  refine ⟨ρ, σs, S, rl, re, PostR.bind (R := RV G) (r := mo σs S) p fun ρ1 H1 S1 d x l1 rl1 rv1 p1 => ?_⟩
  refine ⟨ρ1, σs, S1, rl1, re.mono l1, PostR.bind (R := RV G) (r := me σs S1) p1 fun ρ2 H2 S2 y z l2 rl2 rv2 p2 => ?_⟩
  unfold dgetL at p2
  cases q1 : dicL S2 d with
  | none => simp only [q1] at p2; exact p2.elim
  | some kvs =>
    cases q2 : keyD y with
    | none => simp only [q1, q2] at p2; exact p2.elim
    | some k =>
      simp only [q1, q2] at p2
      obtain ⟨a, kus, rfl, h1, h2⟩ := dicL_rel rl2 (rv1.mono l2) q1
      cases q3 : valD kvs y with
      | none => simp only [q3] at p2; exact p2.elim
      | some v =>
        simp only [q3] at p2
        obtain ⟨u, e1, e2⟩ := (valD_rel q2 h2).1 v q3
        exact ⟨a, u, rfl, .inl ⟨kus, k, h1, key_rel q2 rv2, e1.symm⟩, post_ok p2 rl2 e2⟩
end
end L2.Mi

set_option Elab.async false
set_option linter.all false
set_option maxRecDepth 100000
set_option maxHeartbeats 4000000
namespace L2.Mi
open PySem PySem.Spec PyProof.Rows
section
variable {G : Gx} {X : Cx} {W : WX} {e z : Expr} {ml mz : ME} {p pos kpos : Pos}
def isF (neg : Bool) : D → D → Store → Res D := fun x y S => match x, y with
  | .bl a, .bl b => .ok (.bl (xor neg (decide (a = b)))) S
  | .non, .non => .ok (.bl (xor neg true)) S
  | _, .non => .ok (.bl (xor neg false)) S
  | _, _ => .bad
theorem rv_non {ρ : Wd} {H : Hp} {d : D} {x : V} (h : RV G ρ H d x) : x = .non ↔ d = .non := by
  cases h <;> simp
theorem ops_is : OpS G X W (compareOp .Is) (isF false) := fun pins s σ H x y v u Q ρ S d1 d2 I rx ry rl r1 r2 p => by
  unfold isF at p
  split at p
  · rename_i a b
    cases r1
    cases r2
    exact op_isBl pins s σ H _ _ v u Q I rx ry ⟨a, b, rfl, rfl, by simpa using post_ok p rl (.bl _)⟩
  · cases r1
    cases r2
    exact op_isN pins s σ H _ _ v u Q I rx ry ⟨rfl, by simpa using post_ok p rl (.bl _)⟩
  · rename_i h1
    cases r2
    have n1 : x ≠ .non := fun z => h1 ((rv_non r1).mp z)
    exact op_isN pins s σ H _ _ v u Q I rx ry ⟨rfl, by simpa [n1] using post_ok p rl (.bl _)⟩
  · exact p.elim
theorem ops_isnot : OpS G X W (compareOp .IsNot) (isF true) := fun pins s σ H x y v u Q ρ S d1 d2 I rx ry rl r1 r2 p => by
  unfold isF at p
  split at p
  · rename_i a b
    cases r1
    cases r2
    exact op_notBl pins s σ H _ _ v u Q I rx ry ⟨a, b, rfl, rfl, by simpa using post_ok p rl (.bl _)⟩
  · cases r1
    cases r2
    exact op_notN pins s σ H _ _ v u Q I rx ry ⟨rfl, by simpa using post_ok p rl (.bl _)⟩
  · rename_i h1
    cases r2
    have n1 : x ≠ .non := fun z => h1 ((rv_non r1).mp z)
    exact op_notN pins s σ H _ _ v u Q I rx ry ⟨rfl, by simpa [n1] using post_ok p rl (.bl _)⟩
  · exact p.elim
end
end L2.Mi

set_option Elab.async false
set_option linter.all false
set_option maxRecDepth 100000
set_option maxHeartbeats 4000000
namespace L2.Mi
open PySem PySem.Spec PyProof.Rows
section
variable {G : Gx} {X : Cx} {W : WX}
theorem Mv.show {v h : List Addr} {a : Addr} {H : Hp} : Mv G ⟨v, a :: h⟩ H ⟨v ++ [a], h⟩ H := by
  have nn : ∀ b, (⟨v, a :: h⟩ : Wd).no b → (⟨v ++ [a], h⟩ : Wd).no b := fun b n => by
    have n2 : b ≠ a ∧ b ∉ h := by simpa [Wd.no] using n.2
    exact ⟨by simp [n.1, n2.1], n2.2⟩
  exact ⟨fun i b e => pre_get (List.prefix_append _ _) e, fun _ _ _ q => q, fun b _ n q => ⟨nn b n, q⟩, fun b _ n _ q => ⟨nn b n, q⟩⟩
theorem RKs.mono {ρ ρ' : Wd} {H H' : Hp} (l : Le G ρ H ρ' H') {ds : List (D × D)} {vs : List (Key × V)} (r : RKs G ρ H ds vs) : RKs G ρ' H' ds vs := r.move l.mv
end
end L2.Mi

set_option Elab.async false
set_option linter.all false
set_option maxRecDepth 100000
set_option maxHeartbeats 4000000
namespace L2.Mi
open PySem PySem.Spec PyProof.Rows
section
variable {G : Gx} {X : Cx} {W : WX}
theorem ss_setLc {i : Nat} {y : Str} {py : Pos} {elt tg iter : Expr} {ifs : List Expr} {scope : Scope} {own : List (Str × Nat)} {pos spos : Pos} {mi : MI} {t : TgN} {mt : MT} {me : ME} (n : Nat) (cc : Cc G X W) (hy : X.N[i]? = some y) (hyl : X.env.scope.names.lookup y = some .local) (hk : X.env.scope.kind = .function) (hl : (py.line == pos.line) = true)
    (ha : (scope.names.any fun (n, k) => n == y && (k == .local || k == .cell)) = false) (hi : SI G X W tg iter mi) (ok : BlkOk X.N X.env.scope scope own) (hv : ∀ i ∈ t.slots, i ∈ own.map (·.2))
    (hg : ∀ (s : Shared) (H : Hp) (C : Addr) (cl : List (Str × Addr)) (fp : List Addr), Cc G (X.blk s H scope (compEnvC scope cl C X.env) fp) W0 → PG (X.blk s H scope (compEnvC scope cl C X.env) fp) tg (t.tg X.K))
    (ht : ∀ (s : Shared) (H : Hp) (C : Addr) (cl : List (Str × Addr)) (fp : List Addr), Cc G (X.blk s H scope (compEnvC scope cl C X.env) fp) W0 → PTs (X.blk s H scope (compEnvC scope cl C X.env) fp) ifs (tmt G W0 mt))
    (he : ∀ (s : Shared) (H : Hp) (C : Addr) (cl : List (Str × Addr)) (fp : List Addr), Cc G (X.blk s H scope (compEnvC scope cl C X.env) fp) W0 → SE G (X.blk s H scope (compEnvC scope cl C X.env) fp) W0 elt me) (hs : ∀ x, foldedSetIterable iter X.env x = pure x := by intro _; rfl) :
    SS G X W (.Assign [.Name y py] (.ListComp elt [⟨tg, iter, ifs, 0⟩] scope pos) spos) (sSet i (eLcV mi t mt me (own.map (·.2)) n)) := by
  refine ss_of (ps_setLc cc.calm cc.nd hy hyl (sw_true hk hyl hl ha) hi ok (fun s H C cl fp => hg s H C cl fp (cc_blk cc)) (fun s H C cl fp => ht s H C cl fp (cc_blk cc)) (fun s H C cl fp => he s H C cl fp (cc_blk cc)) hs) fun σ H Dn ρ σs S rl re p => ?_
  have p0 : Post G ρ H (eLcV mi t mt me (own.map (·.2)) n σs S) (fun x H1 => L2.gName i x σ H1 Dn.nx) (EW W σ) := do_go re p fun ρ1 H1 S1 d v l1 rl1 rv1 p1 => p1 ρ1 H1 _ Le.refl rl1 ((re.mono l1).set i rv1)
  exact lc_read hv (fun ds S2 => .ok (.lv ds) S2) rl re (fun ρ' H' S' ds xs Dl rl' h1 h2 h3 p' => post_ok (S := S') p' rl' (.lv h2 h1 h3)) p0
end
def sLock (i : Nat) (m : MS) : MS := fun σ S => match σ[i]? with
  | some (some (.ref n)) => (match S.get n with
    | some (.dic t kvs) => (match m σ (S.set n (.lck (.dic t kvs))) with
      | .nx σ1 S1 => .nx σ1 (S1.set n (.dic t kvs))
      | .rt d S1 => .rt d (S1.set n (.dic t kvs))
      | _ => .bad)
    | _ => .bad)
  | _ => .bad
theorem unlock_mv {G : Gx} {ρ1 : Wd} {H1 : Hp} {n : Nat} {a : Addr} {u : HO} {od : Obj} (hi1 : ρ1.v[n]? = some a) (k1 : H1 a = some (.frz od u)) (it : ¬ IsT (.frz od u)) : Mv G ρ1 H1 ρ1 (L2.upd H1 a u) := by
  refine ⟨fun _ _ h => h, fun b x t h => ?_, fun b xs nn h => ⟨nn, ?_⟩, fun b x nn k h => ⟨nn, ?_⟩⟩
  · rw [upd_ne (show b ≠ a from fun z => by rw [z, k1] at h; cases h; exact it t)]
    exact h
  · rw [upd_ne (show b ≠ a from fun z => nn.1 (by rw [z]; exact List.mem_of_getElem? hi1))]
    exact h
  · have ne : b ≠ a := fun z => nn.1 (by rw [z]; exact List.mem_of_getElem? hi1)
    rcases h with h | ⟨q, h⟩
    · exact .inl (by rw [upd_ne ne]; exact h)
    · exact .inr ⟨q, by rw [upd_ne ne]; exact h⟩
end L2.Mi

set_option Elab.async false
set_option linter.all false
set_option maxRecDepth 100000
set_option maxHeartbeats 1000000
namespace L2.Mi
open PySem
def Res.sat {α : Type} (r : Res α) (Q : α → Store → Prop) (E : Xn → Store → Prop) : Prop := match r with
  | .ok a S => Q a S
  | .exc x S => E x S
  | .bad => False
/-- what is wanted behind a statement: next, return, exception, break, continue -/
structure Wt where
  n : En → Store → Prop
  r : D → Store → Prop
  e : Xn → Store → Prop := fun _ _ => False
  b : En → Store → Prop := fun _ _ => False
  c : En → Store → Prop := fun _ _ => False
def RS.sat (r : RS) (w : Wt) : Prop := match r with
  | .nx σ S => w.n σ S
  | .rt d S => w.r d S
  | .exc x _ S => w.e x S
  | .bk σ S => w.b σ S
  | .ct σ S => w.c σ S
  | .bad => False
abbrev NoX : Xn → Store → Prop := fun _ _ => False
section
variable {α β : Type} {S S1 : Store} {Q Q' : α → Store → Prop} {E E' : Xn → Store → Prop} {x : Xn} {a : α}
@[simp] theorem sat_ok : (Res.ok a S).sat Q E = Q a S := (rfl)
@[simp] theorem sat_bind {r : Res β} {f : β → Store → Res α} : (r.bind f).sat Q E = r.sat (fun b S1 => (f b S1).sat Q E) E := by cases r <;> rfl
theorem Res.sat.imp {r : Res α} (h : r.sat Q E) (h1 : ∀ a S, Q a S → Q' a S) (h2 : ∀ x S, E x S → E' x S) : r.sat Q' E' := by
  cases r with
  | ok a S => exact h1 _ _ h
  | exc x S => exact h2 _ _ h
  | bad => exact h
theorem Res.sat.mono {r : Res α} (h : r.sat Q E) (h1 : ∀ a S, Q a S → Q' a S) : r.sat Q' E := h.imp h1 fun _ _ h => h
theorem Res.sat.noX {r : Res α} (h : r.sat Q NoX) (h1 : ∀ a S, Q a S → Q' a S) : r.sat Q' E := h.imp h1 fun _ _ h => h.elim
/-- an equation is as good -/
theorem sat_eq {r : Res α} (e : r = .ok a S) (h : Q a S) : r.sat Q E := by rw [e]; exact h
theorem sat_ex {r : Res α} (h : r.sat Q NoX) : ∃ a S, r = .ok a S ∧ Q a S := by
  cases r with
  | ok a S => exact ⟨a, S, rfl, h⟩
  | exc x S => exact h.elim
  | bad => exact h.elim
end
section
variable {σ σ' : En} {S S1 : Store} {w w' : Wt} {m a b : ME} {t : MT} {k l : MS} {d : D} {x : Xn} {i : Nat}
theorem RS.sat.imp {r : RS} (h : r.sat w) (h1 : ∀ σ S, w.n σ S → w'.n σ S) (h2 : ∀ d S, w.r d S → w'.r d S) (h3 : ∀ x S, w.e x S → w'.e x S) (h4 : ∀ σ S, w.b σ S → w'.b σ S) (h5 : ∀ σ S, w.c σ S → w'.c σ S) : r.sat w' := by
  cases r with
  | nx σ S => exact h1 _ _ h
  | rt d S => exact h2 _ _ h
  | exc x σ S => exact h3 _ _ h
  | bk σ S => exact h4 _ _ h
  | ct σ S => exact h5 _ _ h
  | bad => exact h
@[simp] theorem sat_seq : (sSeq k l σ S).sat w = (k σ S).sat { w with n := fun σ1 S1 => (l σ1 S1).sat w } := by
  unfold sSeq
  cases k σ S <;> rfl
@[simp] theorem sat_ret : (sRet m σ S).sat w = (m σ S).sat w.r w.e := by
  unfold sRet
  cases m σ S <;> rfl
@[simp] theorem sat_drop : (sDrop m σ S).sat w = (m σ S).sat (fun _ S1 => w.n σ S1) w.e := by
  unfold sDrop
  cases m σ S <;> rfl
@[simp] theorem sat_set : (sSet i m σ S).sat w = (m σ S).sat (fun d S1 => w.n (σ.set i (some d)) S1) w.e := by
  unfold sSet sAsg gName
  cases m σ S <;> rfl
@[simp] theorem sat_if : (sIf t k l σ S).sat w = (t σ S).sat (fun c S1 => if c then (k σ S1).sat w else (l σ S1).sat w) w.e := by
  unfold sIf
  cases t σ S with
  | ok c S1 => cases c <;> rfl
  | _ => rfl
@[simp] theorem sat_next : (sNext σ S).sat w = w.n σ S := (rfl)
theorem sat_par {i j : Nat} : (sPar i j a b σ S).sat w = (a σ S).sat (fun x S1 => (b σ S1).sat (fun y S2 => w.n ((σ.set i (some x)).set j (some y)) S2) w.e) w.e := by
  unfold sPar
  simp only [aList_cons, aList_nil]
  cases a σ S with
  | ok x S1 =>
    simp only [bind_ok', sat_ok]
    cases b σ S1 <;> rfl
  | _ => rfl
theorem sat_raise {c f : Nat} : (sRaise c f m σ S).sat w = (m σ S).sat (fun d S1 => w.e ⟨c, [(f, d)]⟩ S1) w.e := by
  unfold sRaise
  cases m σ S <;> rfl
/-- the end of a def -/
theorem sat_fin {r : RS} {Q : D → Store → Prop} {E : Xn → Store → Prop} (h : r.sat ⟨fun _ S => Q .non S, Q, E, fun _ _ => False, fun _ _ => False⟩) : (fin r).sat Q E := by
  cases r with
  | bk σ S => exact h.elim
  | ct σ S => exact h.elim
  | _ => exact h
/-- turn by turn over items; I: what stands ahead of each, by what is left -/
theorem forL_sat {g : MG} {b : MS} (I : List D → En → Store → Prop) {w : Wt} (step : ∀ d ds σ S, I (d :: ds) σ S → (g d σ S).sat (fun σ1 S1 => (b σ1 S1).sat ⟨I ds, w.r, w.e, w.n, I ds⟩) NoX) (done : ∀ σ S, I [] σ S → w.n σ S) :
    ∀ (ds : List D) (σ : En) (S : Store), I ds σ S → (forL g b ds σ S).sat w
  | [], σ, S, h => done σ S h
  | d :: ds, σ, S, h => by
    have z := step d ds σ S h
    rw [forL_cons]
    cases q : g d σ S with
    | ok σ1 S1 =>
      rw [q] at z
      simp only
      have z2 : (b σ1 S1).sat ⟨I ds, w.r, w.e, w.n, I ds⟩ := z
      cases q2 : b σ1 S1 with
      | nx σ2 S2 => rw [q2] at z2; exact forL_sat I step done ds σ2 S2 z2
      | ct σ2 S2 => rw [q2] at z2; exact forL_sat I step done ds σ2 S2 z2
      | bk σ2 S2 => rw [q2] at z2; exact z2
      | rt d S2 => rw [q2] at z2; exact z2
      | exc x σ2 S2 => rw [q2] at z2; exact z2
      | bad => rw [q2] at z2; exact z2
    | exc x S1 => rw [q] at z; exact z.elim
    | bad => rw [q] at z; exact z.elim
/-- what is walked in a for or a comprehension -/
def Walk (mi : MI) (σ : En) (S : Store) (ds : List D) (S1 : Store) : Prop := ∃ src, mi σ S = .ok src S1 ∧ ∀ k S, src k S = some ds[k]?
theorem walk_seq {m : ME} {σ : En} {S S1 : Store} {d : D} {ds : List D} (ha : m σ S = .ok d S1) (hd : itsD d = some ds) : Walk (iSeq m) σ S ds S1 := src_its ha hd
theorem walk_r1 {a : ME} {σ : En} {S S1 : Store} {j : Int} (ha : a σ S = .ok (.int j) S1) (h0 : -1000000 < j) (h1 : j < 1000000) : Walk (iRange1 a) σ S (ups 0 j.toNat) S1 := src_r1 ha h0 h1
theorem for_sat {mi : MI} {g : MG} {b : MS} {n : Nat} {ds : List D} (I : List D → En → Store → Prop) {w : Wt} (hw : Walk mi σ S ds S1) (hn : ds.length < n) (h : I ds σ S1)
    (step : ∀ d ds σ S, I (d :: ds) σ S → (g d σ S).sat (fun σ1 S1 => (b σ1 S1).sat ⟨I ds, w.r, w.e, w.n, I ds⟩) NoX) (done : ∀ σ S, I [] σ S → w.n σ S) : (sFor mi g b n σ S).sat w := by
  obtain ⟨src, e, hs⟩ := hw
  unfold sFor
  rw [e]
  simp only
  rw [forGo_list hs n 0 σ S1 (by omega) (by omega)]
  exact forL_sat I step done ds σ S1 h
/-- a comprehension; I: by what is left, what is found -/
theorem lcGo_sat {src : Src} {t : TgN} {mt : MT} {me : ME} {σ : En} {ds : List D} (h : ∀ k S, src k S = some ds[k]?) (I : List D → List D → Store → Prop)
    (step : ∀ d r acc S, I (d :: r) acc S → ∃ σ2, t.put d σ = some σ2 ∧ (mt σ2 S).sat (fun c S1 => if c then (me σ2 S1).sat (fun y S2 => acc.length < lim ∧ I r (acc ++ [y]) S2) NoX else I r acc S1) NoX) :
    ∀ (n k : Nat) (acc : List D) (S : Store), ds.length < n + k → k ≤ ds.length → I (ds.drop k) acc S → (lcGo src t mt me σ n k acc S).sat (fun acc2 S2 => I [] acc2 S2) NoX
  | 0, k, acc, S, h1, h2, _ => absurd h1 (by omega)
  | n + 1, k, acc, S, h1, h2, hi => by
    unfold lcGo
    rw [h k S]
    by_cases hk : k < ds.length
    · rw [List.getElem?_eq_getElem hk]
      rw [List.drop_eq_getElem_cons hk] at hi
      obtain ⟨σ2, e1, z⟩ := step _ _ _ _ hi
      simp only [e1]
      cases q : mt σ2 S with
      | ok c S1 =>
        rw [q] at z
        cases c with
        | false => exact lcGo_sat h I step n (k + 1) acc S1 (by omega) (by omega) z
        | true =>
          have z2 : (me σ2 S1).sat (fun y S2 => acc.length < lim ∧ I (ds.drop (k + 1)) (acc ++ [y]) S2) NoX := z
          simp only
          cases q2 : me σ2 S1 with
          | ok y S2 =>
            rw [q2] at z2
            obtain ⟨z3, z4⟩ := z2
            simp only
            rw [if_pos z3]
            exact lcGo_sat h I step n (k + 1) _ S2 (by omega) (by omega) z4
          | exc x S2 => rw [q2] at z2; exact z2.elim
          | bad => rw [q2] at z2; exact z2.elim
      | exc x S1 => rw [q] at z; exact z.elim
      | bad => rw [q] at z; exact z.elim
    · rw [List.getElem?_eq_none (by omega)]
      rw [List.drop_eq_nil_of_le (by omega)] at hi
      exact hi
theorem lc_sat {mi : MI} {t : TgN} {mt : MT} {me : ME} {vs : List Nat} {n : Nat} {ds : List D} {Q : D → Store → Prop} {E : Xn → Store → Prop} (I : List D → List D → Store → Prop) (hw : Walk mi σ S ds S1) (hn : ds.length < n) (h : I ds [] S1)
    (step : ∀ d r acc S, I (d :: r) acc S → ∃ σ2, t.put d (wipeD σ vs) = some σ2 ∧ (mt σ2 S).sat (fun c S1 => if c then (me σ2 S1).sat (fun y S2 => acc.length < lim ∧ I r (acc ++ [y]) S2) NoX else I r acc S1) NoX)
    (done : ∀ acc S, I [] acc S → Q (.lv acc) S) : (eLcV mi t mt me vs n σ S).sat Q E := by
  obtain ⟨src, e, hs⟩ := hw
  unfold eLcV
  rw [e, bind_ok', sat_bind]
  exact (lcGo_sat hs I step n 0 [] S1 (by omega) (by omega) h).noX fun acc S2 z => done acc S2 z
end
end L2.Mi

set_option Elab.async false
set_option linter.all false
set_option maxRecDepth 100000
set_option maxHeartbeats 1000000
namespace L2.Mi
open PySem
def LETS : List Nat := [97, 98, 99, 100, 101, 102, 103, 104, 105, 106, 107, 108, 109, 110, 111, 112, 113, 114, 115, 116, 117, 118, 119, 120, 121, 122]
def DIGS : List Nat := [48, 49, 50, 51, 52, 53, 54, 55, 56, 57]
def LD (c : Nat) : Bool := decide (c ∈ LETS) || decide (c ∈ DIGS)
abbrev MARK : List Nat := [109, 97, 114, 107]
abbrev NAME : List Nat := [110, 97, 109, 101]
abbrev BADW : List Nat := [98, 97, 100]
abbrev NUMB : List Nat := [110, 117, 109, 98, 101, 114]
abbrev ENDW : List Nat := [101, 110, 100]
theorem lim_big : 999999 ≤ lim := by unfold lim; decide
theorem strs_flat : ∀ ks : List (List Nat), (ks.map D.str).all flatD = true
  | [] => rfl
  | k :: ks => by
    rw [List.map_cons, List.all_cons, strs_flat ks]
    rfl
theorem any_eqD (w : List Nat) : ∀ ks : List (List Nat), ((ks.map D.str).any fun z => eqD z (.str w)) = ks.any (· == w)
  | [] => rfl
  | k :: ks => by
    rw [List.map_cons, List.any_cons, List.any_cons, any_eqD w ks]
    rfl
theorem inF_strs {S : Store} {w : List Nat} {ks : List (List Nat)} {d : D} {neg : Bool} (h : seqD S d = some (ks.map D.str)) : inF neg (.str w) d S = .ok (.bl (if neg then !(ks.any (· == w)) else ks.any (· == w))) S := by
  unfold inF
  simp only [h, strs_flat, flatD, Bool.and_self, if_true, any_eqD]
/-- a text of true signs -/
def Txt (R : List Nat) : Prop := ∀ c ∈ R, c < 0x110000
theorem Txt.ok {R : List Nat} (h : Txt R) : PyData.strOk ⟨R.toArray⟩ = true := by
  unfold PyData.strOk
  simp only [List.all_toArray, List.all_eq_true, decide_eq_true_eq]
  exact h
theorem Txt.sub {a b : List Nat} (h : Txt b) (hs : ∀ c ∈ a, c ∈ b) : Txt a := fun c hc => h c (hs c hc)
theorem str_beq {a b : List Nat} : ((⟨a.toArray⟩ : Str) == ⟨b.toArray⟩) = (a == b) := by
  by_cases h : a = b
  · subst h; simp
  · have n1 : (a == b) = false := beq_eq_false_iff_ne.mpr h
    rw [n1]
    refine beq_eq_false_iff_ne.mpr fun z => h ?_
    have z2 := congrArg (fun s : Str => s.cps.toList) z
    simpa using z2
theorem eqF_str {own : Op2} {a b : List Nat} {S : Store} (ha : Txt a) (hb : Txt b) : eqF own (.str a) (.str b) S = .ok (.bl (a == b)) S := by
  simp [eqF, dat, SeqAt.shaped, PyData.canLay0, PyData.depth, PyData.eqv, str_beq, ha.ok, hb.ok]
theorem neF_str {own : Op2} {a b : List Nat} {S : Store} (ha : Txt a) (hb : Txt b) : neF own (.str a) (.str b) S = .ok (.bl (!(a == b))) S := by
  simp [neF, dat, SeqAt.shaped, PyData.canLay0, PyData.depth, PyData.eqv, str_beq, ha.ok, hb.ok]
theorem appendF_ev {S : Store} {i : Nat} {ds : List D} {y : D} (h : S.get i = some (.lst ds)) (hl : ds.length < 900000) : appendF (.ref i) [y] S = .ok .non (S.set i (.lst (ds ++ [y]))) := by
  unfold appendF
  simp only [h]
  rw [if_pos (by have := lim_big; omega)]
theorem Store.set_set {S : Store} {i : Nat} {o o' : Ob} : (S.set i o).set i o' = S.set i o' := by
  unfold Store.set
  simp
def allD (w : List Nat) : Bool := w.all fun c => decide (c ∈ DIGS)
def kindS (ks : List (List Nat)) (w : List Nat) : List Nat := if ks.any (· == w) then MARK else match w with
  | [] => BADW
  | c :: r => if decide (c ∈ LETS) then NAME else if allD (c :: r) then (if c == 48 && !r.isEmpty then BADW else NUMB) else BADW
end L2.Mi

set_option Elab.async false
set_option linter.all false
set_option maxRecDepth 100000
set_option maxHeartbeats 1000000
namespace L2.Mi
open PySem
structure Tok where
  k : List Nat
  w : List Nat
  p : Nat
def Tok.d (t : Tok) : D := .tup [.str t.k, .str t.w, .int (t.p : Int)]
/-- the tokens of a rest that stands at a -/
inductive Tk (sg : List Nat) (ks : List (List Nat)) : Nat → List Nat → List Tok → Prop
  | nil {a : Nat} : Tk sg ks a [] [⟨ENDW, [], a⟩]
  | gap {a c : Nat} {t : List Nat} {ts : List Tok} (h : c = 32 ∨ c = 10) (r : Tk sg ks (a + 1) t ts) : Tk sg ks a (c :: t) ts
  | sign {a c : Nat} {t : List Nat} {ts : List Tok} (h1 : c ≠ 32) (h2 : c ≠ 10) (h : c ∈ sg) (r : Tk sg ks (a + 1) t ts) : Tk sg ks a (c :: t) (⟨MARK, [c], a⟩ :: ts)
  | run {a : Nat} {w rest : List Nat} {ts : List Tok} (h0 : w ≠ []) (h1 : ∀ c ∈ w, LD c = true) (h2 : ∀ c t, rest = c :: t → LD c = false) (h3 : kindS ks w ≠ BADW) (r : Tk sg ks (a + w.length) rest ts) : Tk sg ks a (w ++ rest) (⟨kindS ks w, w, a⟩ :: ts)
  | odd {a c : Nat} {t : List Nat} (h1 : c ≠ 32) (h2 : c ≠ 10) (h : c ∉ sg) (h3 : LD c = false) : Tk sg ks a (c :: t) [⟨BADW, [], a⟩]
  | bad {a : Nat} {w rest : List Nat} (h0 : w ≠ []) (h1 : ∀ c ∈ w, LD c = true) (h2 : ∀ c t, rest = c :: t → LD c = false) (h3 : kindS ks w = BADW) : Tk sg ks a (w ++ rest) [⟨BADW, [], a⟩]
structure TokF (ks : List (List Nat)) (kd : D) (oE : Op2) (kF eF : FN) : Prop where
  kq : ∀ S, seqD S kd = some (ks.map D.str)
  eI : ∀ i j S, oE (.int i) (.int j) S = .ok (.bl (i == j)) S
  eS : ∀ a b S, Txt a → Txt b → oE (.str a) (.str b) S = .ok (.bl (a == b)) S
  kF : ∀ w S, w ≠ [] → w.length ≤ 90000 → Txt w → kF [.str w, kd] S = .ok (.str (kindS ks w)) S
  eF : ∀ (l r rest : List Nat) (a : Nat) S, l.length ≤ 90000 → l.drop a = r ++ rest → a ≤ l.length → (∀ c ∈ r, LD c = true) → (∀ c t, rest = c :: t → LD c = false) → eF [.str l, .int (a : Int)] S = .ok (.int ((a + r.length : Nat) : Int)) S
end L2.Mi

set_option Elab.async false
set_option linter.all false
set_option maxRecDepth 100000
set_option maxHeartbeats 1000000
namespace L2.Mi
open PySem
inductive PErr where
  | syn (p : Nat)
  | big (w : List Nat)
  | none
def Tok.is (t : Tok) (w : List Nat) : Bool := t.k == MARK && t.w == w
abbrev PR (β : Type) := Except PErr (β × List Tok)
inductive Fac where
  | num (v : Int) | nn | ctr (w : List Nat)
def Fac.d : Fac → D
  | .num v => .int v
  | .nn => .str [110]
  | .ctr w => .str w
def Fac.stop : Fac → Bool
  | .ctr _ => true
  | _ => false
structure Term where
  c : List Nat
  p : Nat
  v : Int
def andThen {α β : Type} (a : PR α) (f : α → List Tok → PR β) : PR β := match a with
  | .error e => .error e
  | .ok (x, r) => f x r
def Tok.ends (t : Tok) : Prop := t.k = ENDW ∨ t.k = BADW
def Stop (ts : List Tok) : Prop := ∃ p t, ts = p ++ [t] ∧ t.ends
theorem Stop.ne {ts : List Tok} (h : Stop ts) : ts ≠ [] := by
  obtain ⟨p, t, rfl, _⟩ := h
  simp
theorem Stop.cons {ts : List Tok} (h : Stop ts) : ∃ t r, ts = t :: r := by
  cases ts with
  | nil => exact absurd rfl h.ne
  | cons t r => exact ⟨t, r, rfl⟩
theorem Stop.tail {t : Tok} {r : List Tok} (h : Stop (t :: r)) (n : ¬ t.ends) : Stop r := by
  obtain ⟨p, u, e, hu⟩ := h
  cases p with
  | nil =>
    simp at e
    rw [← e.1] at hu
    exact absurd hu n
  | cons x p =>
    simp at e
    exact ⟨p, u, e.2, hu⟩
/-- a reader that goes on: less is left, and it is a rest -/
def Goes (r : List Tok) (r' : List Tok) : Prop := ∃ p, r = p ++ r' ∧ p ≠ [] ∧ Stop r'
theorem Goes.lt {r r' : List Tok} (h : Goes r r') : r'.length < r.length := by
  obtain ⟨p, rfl, hp, _⟩ := h
  have : 0 < p.length := List.length_pos_iff.mpr hp
  simp
  omega
theorem Goes.trans {a b c : List Tok} (h1 : Goes a b) (h2 : Goes b c) : Goes a c := by
  obtain ⟨p, rfl, hp, _⟩ := h1
  obtain ⟨q, rfl, hq, hs⟩ := h2
  exact ⟨p ++ q, by simp, by simp [hp], hs⟩
theorem Goes.one {t : Tok} {r : List Tok} (h : Stop (t :: r)) (n : ¬ t.ends) : Goes (t :: r) r := ⟨[t], rfl, by simp, h.tail n⟩
end L2.Mi

set_option Elab.async false
set_option linter.all false
set_option maxRecDepth 100000
set_option maxHeartbeats 1000000
namespace L2.Mi
open PySem
section
variable {σ : En} {S S1 : Store}
/-- what is walked, while the store is as P says -/
def WalkP (mi : MI) (σ : En) (S : Store) (ds : List D) (S1 : Store) (P : Store → Prop) : Prop := ∃ src, mi σ S = .ok src S1 ∧ ∀ k S, P S → src k S = some ds[k]?
theorem forGo_sat {src : Src} {g : MG} {b : MS} {ds : List D} {P : Store → Prop} (h : ∀ k S, P S → src k S = some ds[k]?) (I : List D → En → Store → Prop) (hP : ∀ ds σ S, I ds σ S → P S) {w : Wt}
    (step : ∀ d ds σ S, I (d :: ds) σ S → (g d σ S).sat (fun σ1 S1 => (b σ1 S1).sat ⟨I ds, w.r, w.e, w.n, I ds⟩) NoX) (done : ∀ σ S, I [] σ S → w.n σ S) :
    ∀ (n k : Nat) (σ : En) (S : Store), ds.length < n + k → k ≤ ds.length → I (ds.drop k) σ S → (forGo src g b n k σ S).sat w
  | 0, k, σ, S, h1, h2, _ => absurd h1 (by omega)
  | n + 1, k, σ, S, h1, h2, hi => by
    unfold forGo
    rw [h k S (hP _ _ _ hi)]
    by_cases hk : k < ds.length
    · rw [List.drop_eq_getElem_cons hk] at hi
      rw [List.getElem?_eq_getElem hk]
      have z := step _ _ _ _ hi
      simp only
      cases q : g ds[k] σ S with
      | ok σ1 S1 =>
        rw [q] at z
        have z2 : (b σ1 S1).sat ⟨I (ds.drop (k + 1)), w.r, w.e, w.n, I (ds.drop (k + 1))⟩ := z
        simp only
        cases q2 : b σ1 S1 with
        | nx σ2 S2 => rw [q2] at z2; exact forGo_sat h I hP step done n (k + 1) σ2 S2 (by omega) (by omega) z2
        | ct σ2 S2 => rw [q2] at z2; exact forGo_sat h I hP step done n (k + 1) σ2 S2 (by omega) (by omega) z2
        | bk σ2 S2 => rw [q2] at z2; exact z2
        | rt d S2 => rw [q2] at z2; exact z2
        | exc x σ2 S2 => rw [q2] at z2; exact z2
        | bad => rw [q2] at z2; exact z2
      | exc x S1 => rw [q] at z; exact z.elim
      | bad => rw [q] at z; exact z.elim
    · rw [List.drop_eq_nil_of_le (by omega)] at hi
      rw [List.getElem?_eq_none (by omega)]
      exact done σ S hi
theorem for_satP {mi : MI} {g : MG} {b : MS} {n : Nat} {ds : List D} {P : Store → Prop} (I : List D → En → Store → Prop) {w : Wt} (hw : WalkP mi σ S ds S1 P) (hP : ∀ ds σ S, I ds σ S → P S) (hn : ds.length < n) (h : I ds σ S1)
    (step : ∀ d ds σ S, I (d :: ds) σ S → (g d σ S).sat (fun σ1 S1 => (b σ1 S1).sat ⟨I ds, w.r, w.e, w.n, I ds⟩) NoX) (done : ∀ σ S, I [] σ S → w.n σ S) : (sFor mi g b n σ S).sat w := by
  obtain ⟨src, e, hs⟩ := hw
  unfold sFor
  rw [e]
  simp only
  exact forGo_sat hs I hP step done n 0 σ S1 (by omega) (by omega) h
theorem walk_ky {m : ME} {n : Nat} {kvs : List (D × D)} (ha : m σ S = .ok (.ref n) S1) (h : S1.get n = some (.lck (.dic false kvs))) : Walk (iKy m) σ S (kvs.map (·.1)) S1 := by
  have e0 : iKy m σ S = .ok (fun k _ => some ((kvs[k]?).map (·.1))) S1 := by
    unfold iKy
    rw [ha, bind_ok']
    simp only [h]
  exact ⟨_, e0, fun k S => by rw [List.getElem?_map]⟩
end
theorem eqKD_str {a b : List Nat} : eqKD (.str a) (.str b) = (a == b) := rfl
end L2.Mi

set_option Elab.async false
set_option linter.all false
set_option maxRecDepth 100000
set_option maxHeartbeats 1000000
namespace L2.Mi
open PySem
theorem Goes.st {r r' : List Tok} (h : Goes r r') : Stop r' := by
  obtain ⟨_, _, _, h⟩ := h
  exact h
end L2.Mi

set_option Elab.async false
set_option linter.all false
set_option maxRecDepth 100000
set_option maxHeartbeats 1000000
namespace L2.Mi
open PySem
structure TokA (ks : List (List Nat)) (m : Nat) (t : Tok) : Prop where
  k : Txt t.k
  w : Txt t.w
  v : t.k = NUMB → t.w.length ≤ 150 → ∃ v, PySem.intText? ⟨t.w.toArray⟩ = some v
  n : t.k = NAME → ks.any (· == t.w) = false
  l : t.w.length ≤ m
end L2.Mi

set_option Elab.async false
set_option linter.all false
set_option maxRecDepth 100000
set_option maxHeartbeats 1000000
namespace L2.Mi
open PySem
theorem Tk.word {sg : List Nat} {ks : List (List Nat)} {a : Nat} {w rest K : List Nat} {ts : List Tok} (hk : kindS ks w = K) (hK : K ≠ BADW) (h0 : w ≠ []) (h1 : ∀ c ∈ w, LD c = true) (h2 : ∀ c t, rest = c :: t → LD c = false) (r : Tk sg ks (a + w.length) rest ts) : Tk sg ks a (w ++ rest) (⟨K, w, a⟩ :: ts) := by
  subst hk
  exact .run h0 h1 h2 hK r
theorem cutD_mem {α : Type} {l : List α} {lo hi : Option Int} {c : α} (h : c ∈ cutD l lo hi) : c ∈ l := List.mem_of_mem_drop (List.mem_of_mem_take h)
end L2.Mi

set_option Elab.async false
set_option linter.all false
set_option maxRecDepth 100000
set_option maxHeartbeats 1000000
namespace L2.Mi
open PySem
/-- all that stood stands, but what is at r -/
structure Fr (S S' : Store) (r : Nat) : Prop where
  sz : S.size ≤ S'.size
  same : ∀ j, j < S.size → j ≠ r → S'.get j = S.get j
theorem Fr.refl {S : Store} {r : Nat} : Fr S S r := ⟨Nat.le_refl _, fun _ _ _ => rfl⟩
theorem Fr.trans {S S1 S2 : Store} {r : Nat} (a : Fr S S1 r) (b : Fr S1 S2 r) : Fr S S2 r := ⟨Nat.le_trans a.sz b.sz, fun j h n => (b.same j (Nat.lt_of_lt_of_le h a.sz) n).trans (a.same j h n)⟩
theorem Fr.get {S S1 : Store} {r j : Nat} {o : Ob} (a : Fr S S1 r) (h : S.get j = some o) (n : j ≠ r) : S1.get j = some o := (a.same j (Store.get_lt h) n).trans h
theorem Fr.push {S : Store} {r : Nat} {o : Ob} : Fr S (S.push o) r := ⟨by rw [Store.size_push]; omega, fun j h _ => Store.get_push_lt h⟩
theorem Fr.set {S : Store} {r : Nat} {o : Ob} : Fr S (S.set r o) r := ⟨by rw [Store.size_set]; exact Nat.le_refl _, fun j _ n => Store.get_set_ne (Ne.symm n)⟩
/-- what is new may be changed -/
theorem Fr.set_new {S S1 : Store} {r j : Nat} {o : Ob} (a : Fr S S1 r) (h : S.size ≤ j) : Fr S (S1.set j o) r := ⟨by rw [Store.size_set]; exact a.sz, fun i hi n => by rw [Store.get_set_ne (by omega)]; exact a.same i hi n⟩
theorem Fr.push_new {S S1 : Store} {r : Nat} {o : Ob} (a : Fr S S1 r) : Fr S (S1.push o) r := a.trans Fr.push
theorem opsI_or {f g h k : Op2} : OpsI (opOr (addF f) h) (opOr (mulF g) k) := ⟨fun _ _ _ => rfl, fun i j S q => by unfold opOr; rw [mulF_ev q]; rfl⟩
/-- one of a list, drawn -/
theorem pick {S : Store} {xs : List D} {r : Int} {m : Int} (hm : (xs.length : Int) = m) (r0 : 0 ≤ r) (r1 : r < m) : ∃ x, x ∈ xs ∧ itemF (.lv xs) (.int r) S = .ok x S := by
  have hl : r.toNat < xs.length := by omega
  refine ⟨xs[r.toNat], List.getElem_mem hl, itemF_seq (xs := xs) rfl ?_⟩
  have z := atI_nat (xs := xs) (k := r.toNat) (x := xs[r.toNat]) (List.getElem?_eq_getElem hl)
  rwa [Int.toNat_of_nonneg r0] at z
theorem Pool.lt {S : Store} {i : Nat} (h : Pool S i) : i < S.size := by obtain ⟨_, _, h, _⟩ := h; exact Store.get_lt h
theorem Pool.keep {S S' : Store} {i : Nat} (h : Pool S i) (e : S'.get i = S.get i) : Pool S' i := by
  obtain ⟨a, b, h1, h2⟩ := h
  exact ⟨a, b, e.trans h1, h2⟩
theorem Pool.push {S : Store} {i : Nat} {o : Ob} (h : Pool S i) : Pool (S.push o) i := h.keep (Store.get_push_lt h.lt)
theorem Pool.fr {S S' : Store} {i r : Nat} (h : Pool S i) (f : Fr S S' r) (n : i ≠ r) : Pool S' i := h.keep (f.same i h.lt n)
theorem Fr.other {S S' : Store} {r q : Nat} (f : Fr S S' r) (h : S.size ≤ r) : Fr S S' q := ⟨f.sz, fun j hj _ => f.same j hj (by omega)⟩
theorem Fr.any {S : Store} {r : Nat} : Fr S S r := Fr.refl
end L2.Mi

set_option Elab.async false
set_option linter.all false
set_option maxRecDepth 100000
set_option maxHeartbeats 1000000
namespace L2.Mi
open PySem
mutual
/-- plain data: no reference, texts in order, at most so deep -/
def okD : Nat → D → Bool
  | _, .non => true
  | _, .bl _ => true
  | _, .int _ => true
  | _, .str x => x.all (· < 0x110000)
  | n + 1, .tup ds => okDs n ds
  | n + 1, .kt ds => okDs n ds
  | n + 1, .lv ds => okDs n ds
  | _, _ => false
def okDs : Nat → List D → Bool
  | _, [] => true
  | n, d :: ds => okD n d && okDs n ds
end
mutual
def toP : D → PyData
  | .non => .none
  | .bl b => .bool b
  | .int i => .int i
  | .str x => .str ⟨x.toArray⟩
  | .tup ds => .tuple (toPs ds)
  | .kt ds => .tuple (toPs ds)
  | .lv ds => .list (toPs ds)
  | _ => .none
def toPs : List D → List PyData
  | [] => []
  | d :: ds => toP d :: toPs ds
end
theorem Txt.all {x : List Nat} (h : x.all (· < 0x110000) = true) : Txt x := fun c hc => by
  have := List.all_eq_true.mp h c hc
  simpa using this
theorem Txt.of_ok {x : List Nat} (h : Txt x) : x.all (· < 0x110000) = true := List.all_eq_true.mpr fun c hc => by simpa using h c hc
mutual
theorem dat_ok {S : Store} : ∀ (n k : Nat) (d : D), okD n d = true → dat (n + k) S d = some (toP d)
  | n, k, .non, _ => by cases n <;> cases k <;> rfl
  | n, k, .bl b, _ => by cases n <;> cases k <;> rfl
  | n, k, .int b, _ => by cases n <;> cases k <;> rfl
  | n, k, .str b, _ => by cases n <;> cases k <;> rfl
  | 0, k, .tup ds, h => by unfold okD at h; cases h
  | 0, k, .kt ds, h => by unfold okD at h; cases h
  | 0, k, .lv ds, h => by unfold okD at h; cases h
  | n + 1, k, .tup ds, h => by
    unfold okD at h
    rw [Nat.succ_add]
    unfold dat toP
    rw [dats_ok n k ds h]
    rfl
  | n + 1, k, .kt ds, h => by
    unfold okD at h
    rw [Nat.succ_add]
    unfold dat toP
    rw [dats_ok n k ds h]
    rfl
  | n + 1, k, .lv ds, h => by
    unfold okD at h
    rw [Nat.succ_add]
    unfold dat toP
    rw [dats_ok n k ds h]
    rfl
  | n, k, .ref _, h => by cases n <;> (unfold okD at h; cases h)
  | n, k, .ty _, h => by cases n <;> (unfold okD at h; cases h)
  | n, k, .dv _ _, h => by cases n <;> (unfold okD at h; cases h)
  | n, k, .ex _ _ _, h => by cases n <;> (unfold okD at h; cases h)
  | n, k, .cx _, h => by cases n <;> (unfold okD at h; cases h)
  | n, k, .lm _, h => by cases n <;> (unfold okD at h; cases h)
  | n, k, .cl _, h => by cases n <;> (unfold okD at h; cases h)
  | n, k, .fl _, h => by cases n <;> (unfold okD at h; cases h)
theorem dats_ok {S : Store} : ∀ (n k : Nat) (ds : List D), okDs n ds = true → mapO (dat (n + k) S) ds = some (toPs ds)
  | _, _, [], _ => rfl
  | n, k, d :: ds, h => by
    unfold okDs at h
    rw [Bool.and_eq_true] at h
    unfold mapO toPs
    rw [dat_ok n k d h.1, dats_ok n k ds h.2]
end
mutual
theorem lay_ok : ∀ (n : Nat) (d : D), okD n d = true → (toP d).canLay0 = true ∧ (toP d).depth ≤ n
  | n, .non, _ => by unfold toP; simp [PyData.canLay0, PyData.depth]
  | n, .bl b, _ => by unfold toP; simp [PyData.canLay0, PyData.depth]
  | n, .int b, _ => by unfold toP; simp [PyData.canLay0, PyData.depth]
  | n, .str b, h => by
    have h' : b.all (· < 0x110000) = true := by cases n <;> (unfold okD at h; exact h)
    have := (Txt.all h').ok
    unfold toP
    simp [PyData.canLay0, PyData.depth, this]
  | 0, .tup ds, h => by unfold okD at h; cases h
  | 0, .kt ds, h => by unfold okD at h; cases h
  | 0, .lv ds, h => by unfold okD at h; cases h
  | n + 1, .tup ds, h => by
    unfold okD at h
    have z := lays_ok n ds h
    unfold toP
    simp only [PyData.canLay0, PyData.depth]
    exact ⟨z.1, by omega⟩
  | n + 1, .kt ds, h => by
    unfold okD at h
    have z := lays_ok n ds h
    unfold toP
    simp only [PyData.canLay0, PyData.depth]
    exact ⟨z.1, by omega⟩
  | n + 1, .lv ds, h => by
    unfold okD at h
    have z := lays_ok n ds h
    unfold toP
    simp only [PyData.canLay0, PyData.depth]
    exact ⟨z.1, by omega⟩
  | n, .ref _, h => by cases n <;> (unfold okD at h; cases h)
  | n, .ty _, h => by cases n <;> (unfold okD at h; cases h)
  | n, .dv _ _, h => by cases n <;> (unfold okD at h; cases h)
  | n, .ex _ _ _, h => by cases n <;> (unfold okD at h; cases h)
  | n, .cx _, h => by cases n <;> (unfold okD at h; cases h)
  | n, .lm _, h => by cases n <;> (unfold okD at h; cases h)
  | n, .cl _, h => by cases n <;> (unfold okD at h; cases h)
  | n, .fl _, h => by cases n <;> (unfold okD at h; cases h)
theorem lays_ok : ∀ (n : Nat) (ds : List D), okDs n ds = true → PyData.canLayAll0 (toPs ds) = true ∧ PyData.depthAll (toPs ds) ≤ n
  | n, [], _ => by unfold toPs; simp [PyData.canLayAll0, PyData.depthAll]
  | n, d :: ds, h => by
    unfold okDs at h
    rw [Bool.and_eq_true] at h
    have z1 := lay_ok n d h.1
    have z2 := lays_ok n ds h.2
    unfold toPs
    simp only [PyData.canLayAll0, PyData.depthAll, z1.1, z2.1, Bool.and_self]
    exact ⟨trivial, by omega⟩
end
theorem shaped_ok {n : Nat} {d : D} (h : okD n d = true) (hn : n ≤ 64) : SeqAt.shaped (toP d) = true := by
  obtain ⟨h1, h2⟩ := lay_ok n d h
  simp [SeqAt.shaped, h1]
  omega
theorem dat_64 {n : Nat} {d : D} {S : Store} (h : okD n d = true) (hn : n ≤ 64) : dat 64 S d = some (toP d) := by
  have z := dat_ok (S := S) n (64 - n) d h
  rwa [Nat.add_sub_cancel' hn] at z
theorem eqF_ok {own : Op2} {a b : D} {S : Store} (n : Nat) (ha : okD n a = true) (hb : okD n b = true) (hn : n ≤ 64 := by decide) : eqF own a b S = .ok (.bl (PyData.eqv (toP a) (toP b))) S := by
  unfold eqF
  simp only [dat_64 ha hn, dat_64 hb hn, shaped_ok ha hn, shaped_ok hb hn, Bool.and_self, if_true]
theorem neF_ok {own : Op2} {a b : D} {S : Store} (n : Nat) (ha : okD n a = true) (hb : okD n b = true) (hn : n ≤ 64 := by decide) : neF own a b S = .ok (.bl (!PyData.eqv (toP a) (toP b))) S := by
  unfold neF
  simp only [dat_64 ha hn, dat_64 hb hn, shaped_ok ha hn, shaped_ok hb hn, Bool.and_self, if_true]
mutual
theorem eqv_self : ∀ d : D, PyData.eqv (toP d) (toP d) = true
  | .non => by unfold toP; simp [PyData.eqv]
  | .bl b => by unfold toP; simp [PyData.eqv]
  | .int i => by unfold toP; simp [PyData.eqv]
  | .str x => by unfold toP; simp [PyData.eqv]
  | .tup ds => by unfold toP; simp only [PyData.eqv]; exact eqvs_self ds
  | .kt ds => by unfold toP; simp only [PyData.eqv]; exact eqvs_self ds
  | .lv ds => by unfold toP; simp only [PyData.eqv]; exact eqvs_self ds
  | .ref _ => by unfold toP; simp [PyData.eqv]
  | .ty _ => by unfold toP; simp [PyData.eqv]
  | .dv _ _ => by unfold toP; simp [PyData.eqv]
  | .ex _ _ _ => by unfold toP; simp [PyData.eqv]
  | .cx _ => by unfold toP; simp [PyData.eqv]
  | .lm _ => by unfold toP; simp [PyData.eqv]
  | .cl _ => by unfold toP; simp [PyData.eqv]
  | .fn _ => by unfold toP; simp [PyData.eqv]
  | .fl _ => by unfold toP; simp [PyData.eqv]
theorem eqvs_self : ∀ ds : List D, PyData.eqvAll (toPs ds) (toPs ds) = true
  | [] => by unfold toPs; simp [PyData.eqvAll]
  | d :: ds => by
    unfold toPs
    simp only [PyData.eqvAll, eqv_self d, eqvs_self ds, Bool.and_self]
end
theorem eqF_self {own : Op2} {a : D} {S : Store} (n : Nat) (ha : okD n a = true) (hn : n ≤ 64 := by decide) : eqF own a a S = .ok (.bl true) S := by
  rw [eqF_ok n ha ha hn, eqv_self]
theorem neF_self {own : Op2} {a : D} {S : Store} (n : Nat) (ha : okD n a = true) (hn : n ≤ 64 := by decide) : neF own a a S = .ok (.bl false) S := by
  rw [neF_ok n ha ha hn, eqv_self]
  rfl
end L2.Mi

set_option Elab.async false
set_option linter.all false
set_option maxRecDepth 100000
set_option maxHeartbeats 1000000
namespace L2.Mi
open PySem
theorem Txt.nil : Txt [] := fun c hc => nomatch hc
theorem Txt.one {c : Nat} (h : c < 0x110000) : Txt [c] := fun x hx => by simp at hx; subst hx; exact h
theorem Txt.cut {l : List Nat} {lo hi : Option Int} (h : Txt l) : Txt (cutD l lo hi) := h.sub fun c hc => cutD_mem hc
end L2.Mi

set_option Elab.async false
set_option linter.all false
set_option maxRecDepth 100000
set_option maxHeartbeats 4000000
namespace L2.Mi
open PySem PySem.Spec PyProof.Rows
section
variable {G : Gx} {X : Cx} {W : WX} {o e : Expr} {es : List Expr} {x name : Str} {p pos apos : Pos} {ma : MA} {mo : ME} {k : Nat} {f : FN}
structure CmS (G : Gx) (X : Cx) (c : Nat) (m : Str) (k : Nat) (f : FN) : Prop where
  ex : ∃ (C p g : Addr) (mc : Value), G.cls c = some C ∧ ClX.CRead X.K C mc ∧ ClX.CMet X.K C mc m p g ∧ Cal G X.prog X.w X.mg X.base k g f
inductive SJs (G : Gx) (X : Cx) (W : WX) : List Expr → List ME → Prop
  | nil : SJs G X W [] []
  | cons {e : Expr} {m : ME} {es : List Expr} {ms : List ME} (h : SE G X W e m) (r : SJs G X W es ms) : SJs G X W (e :: es) (m :: ms)
end
end L2.Mi

set_option Elab.async false
set_option linter.all false
set_option maxRecDepth 100000
set_option maxHeartbeats 4000000
set_option Elab.async false
set_option linter.all false
set_option maxRecDepth 100000
set_option maxHeartbeats 1000000
namespace L2.Mi
open PySem
mutual
/-- how long its text is at most; whole numbers of less than 1920 bits -/
def rsz : D → Nat
  | .str x => 10 * x.length + 2
  | .tup ds => rszs ds + 2
  | .kt ds => rszs ds + 2
  | .lv ds => rszs ds + 2
  | _ => 1921
def rszs : List D → Nat
  | [] => 0
  | d :: ds => rsz d + 2 + rszs ds
end
mutual
def intOk : D → Bool
  | .int i => decide (i.natAbs.log2 < 1920)
  | .tup ds => intOks ds
  | .kt ds => intOks ds
  | .lv ds => intOks ds
  | _ => true
def intOks : List D → Bool
  | [] => true
  | d :: ds => intOk d && intOks ds
end
theorem from_len : ∀ (ts : List Str) (k : Nat) (acc : Str), (textFrom k acc ts).length ≤ acc.length + piled ts
  | [], k, acc => by show acc.length ≤ _; omega
  | t :: ts, k, acc => by
    have z := from_len ts (k + 1) (acc ++ (if k > 0 then ", " else "" : String) ++ t)
    have h : ((if k > 0 then ", " else "" : String) : Str).length ≤ 2 := by
      by_cases hk : k > 0
      · rw [if_pos hk]; decide
      · rw [if_neg hk]; decide
    rw [strLen_append, strLen_append] at z
    have hp : piled (t :: ts) = t.length + 2 + piled ts := by simp [piled]
    rw [hp]
    show (textFrom (k + 1) _ ts).length ≤ _
    omega
theorem list_len (ts : List Str) : (listText ts).length ≤ piled ts + 2 := by
  have z := from_len ts 0 "["
  have h1 : ("[" : Str).length = 1 := by decide
  have h2 : ("]" : Str).length = 1 := by decide
  show (textFrom 0 "[" ts ++ "]").length ≤ _
  rw [strLen_append]
  omega
mutual
theorem shown_le : ∀ (n : Nat) (d : D), okD n d = true → intOk d = true → (toP d).shown.length ≤ rsz d ∧ (toP d).showable = true
  | n, .non, _, _ => by unfold toP; simp only [PyData.shown, PyData.showable]; exact ⟨by decide, trivial⟩
  | n, .bl b, _, _ => by unfold toP; simp only [PyData.shown, PyData.showable]; exact ⟨by cases b <;> decide, trivial⟩
  | n, .int i, _, hi => by
    unfold intOk at hi
    have h := of_decide_eq_true hi
    unfold toP
    simp only [PyData.shown, PyData.showable]
    refine ⟨?_, hi⟩
    have z := PyProof.Rows.int_text_len_1921 h
    unfold rsz
    exact z
  | n, .str x, h, _ => by
    have h' : x.all (· < 0x110000) = true := by cases n <;> (unfold okD at h; exact h)
    have hx := Txt.all h'
    unfold toP rsz
    simp only [PyData.shown, PyData.showable]
    refine ⟨?_, trivial⟩
    have z := StrLaws.reprText_len ⟨x.toArray⟩ fun c hc => by
      have := hx c (by simpa using hc)
      omega
    simpa [Str.length] using z
  | 0, .tup ds, h, _ => by unfold okD at h; cases h
  | 0, .kt ds, h, _ => by unfold okD at h; cases h
  | 0, .lv ds, h, _ => by unfold okD at h; cases h
  | n + 1, .tup ds, h, hi => by
    unfold okD at h
    unfold intOk at hi
    have z := showns_le n ds h hi
    have z2 := fmt_text (PyData.shownAll (toPs ds))
    unfold toP rsz
    simp only [PyData.shown, PyData.showable]
    exact ⟨by omega, z.2⟩
  | n + 1, .kt ds, h, hi => by
    unfold okD at h
    unfold intOk at hi
    have z := showns_le n ds h hi
    have z2 := fmt_text (PyData.shownAll (toPs ds))
    unfold toP rsz
    simp only [PyData.shown, PyData.showable]
    exact ⟨by omega, z.2⟩
  | n + 1, .lv ds, h, hi => by
    unfold okD at h
    unfold intOk at hi
    have z := showns_le n ds h hi
    have z2 := list_len (PyData.shownAll (toPs ds))
    unfold toP rsz
    simp only [PyData.shown, PyData.showable]
    exact ⟨by omega, z.2⟩
  | n, .ref _, h, _ => by cases n <;> (unfold okD at h; cases h)
  | n, .ty _, h, _ => by cases n <;> (unfold okD at h; cases h)
  | n, .dv _ _, h, _ => by cases n <;> (unfold okD at h; cases h)
  | n, .ex _ _ _, h, _ => by cases n <;> (unfold okD at h; cases h)
  | n, .cx _, h, _ => by cases n <;> (unfold okD at h; cases h)
  | n, .lm _, h, _ => by cases n <;> (unfold okD at h; cases h)
  | n, .cl _, h, _ => by cases n <;> (unfold okD at h; cases h)
  | n, .fl _, h, _ => by cases n <;> (unfold okD at h; cases h)
theorem showns_le : ∀ (n : Nat) (ds : List D), okDs n ds = true → intOks ds = true → piled (PyData.shownAll (toPs ds)) ≤ rszs ds ∧ PyData.showableAll (toPs ds) = true
  | n, [], _, _ => by unfold toPs rszs; simp [PyData.shownAll, PyData.showableAll, piled]
  | n, d :: ds, h, hi => by
    unfold okDs at h
    unfold intOks at hi
    rw [Bool.and_eq_true] at h hi
    have z1 := shown_le n d h.1 hi.1
    have z2 := showns_le n ds h.2 hi.2
    unfold toPs rszs
    simp only [PyData.shownAll, PyData.showableAll, z1.2, z2.2, Bool.and_self]
    have hp : piled ((toP d).shown :: PyData.shownAll (toPs ds)) = (toP d).shown.length + 2 + piled (PyData.shownAll (toPs ds)) := by simp [piled]
    exact ⟨by omega, trivial⟩
end
mutual
theorem pyD_ok {S : Store} : ∀ (n k : Nat) (d : D), okD n d = true → pyD S (n + 1 + k) d = some (toP d)
  | n, k, .non, _ => by rw [show n + 1 + k = (n + k) + 1 by omega]; rfl
  | n, k, .bl b, _ => by rw [show n + 1 + k = (n + k) + 1 by omega]; rfl
  | n, k, .int b, _ => by rw [show n + 1 + k = (n + k) + 1 by omega]; rfl
  | n, k, .str b, _ => by rw [show n + 1 + k = (n + k) + 1 by omega]; rfl
  | 0, k, .tup ds, h => by unfold okD at h; cases h
  | 0, k, .kt ds, h => by unfold okD at h; cases h
  | 0, k, .lv ds, h => by unfold okD at h; cases h
  | n + 1, k, .tup ds, h => by
    unfold okD at h
    rw [show n + 1 + 1 + k = (n + 1 + k) + 1 by omega]
    unfold pyD toP
    simp only [tupD, pyDs_ok n k ds h]
    rfl
  | n + 1, k, .kt ds, h => by
    unfold okD at h
    rw [show n + 1 + 1 + k = (n + 1 + k) + 1 by omega]
    unfold pyD toP
    simp only [tupD, pyDs_ok n k ds h]
    rfl
  | n + 1, k, .lv ds, h => by
    unfold okD at h
    rw [show n + 1 + 1 + k = (n + 1 + k) + 1 by omega]
    unfold pyD toP
    simp only [tupD, listAt, pyDs_ok n k ds h]
    rfl
  | n, k, .ref _, h => by cases n <;> (unfold okD at h; cases h)
  | n, k, .ty _, h => by cases n <;> (unfold okD at h; cases h)
  | n, k, .dv _ _, h => by cases n <;> (unfold okD at h; cases h)
  | n, k, .ex _ _ _, h => by cases n <;> (unfold okD at h; cases h)
  | n, k, .cx _, h => by cases n <;> (unfold okD at h; cases h)
  | n, k, .lm _, h => by cases n <;> (unfold okD at h; cases h)
  | n, k, .cl _, h => by cases n <;> (unfold okD at h; cases h)
  | n, k, .fl _, h => by cases n <;> (unfold okD at h; cases h)
theorem pyDs_ok {S : Store} : ∀ (n k : Nat) (ds : List D), okDs n ds = true → optAll (pyD S (n + 1 + k)) ds = some (toPs ds)
  | _, _, [], _ => rfl
  | n, k, d :: ds, h => by
    unfold okDs at h
    rw [Bool.and_eq_true] at h
    unfold optAll toPs
    rw [pyD_ok n k d h.1, pyDs_ok n k ds h.2]
end
/-- the text of plain data -/
def rtx (d : D) : List Nat := (toP d).shown.cps.toList
theorem repr_ok {d : D} {S : Store} (n : Nat) (h : okD n d = true) (hn : n ≤ 7) (hi : intOk d = true) (hz : rsz d ≤ 10000000) : reprF 8 [d] S = .ok (.str (rtx d)) S := by
  have e : pyD S 8 d = some (toP d) := by
    have z := pyD_ok (S := S) n (7 - n) d h
    rwa [show n + 1 + (7 - n) = 8 by omega] at z
  obtain ⟨h1, h2⟩ := shown_le n d h hi
  obtain ⟨h3, h4⟩ := lay_ok n d h
  have ok : reprOk (toP d) = true := by
    unfold reprOk
    have h5 := PyData.hasDict_of_canLay _ h3
    have : sizeLine = 16777216 := sizeLine_eq
    rw [h2, h5, decide_eq_true (by omega), decide_eq_true (by omega)]
    rfl
  unfold reprF rtx
  simp only [e, ok, if_true]
end L2.Mi

set_option Elab.async false
set_option linter.all false
set_option maxRecDepth 100000
set_option maxHeartbeats 1000000
set_option Elab.async false
set_option linter.all false
set_option maxRecDepth 100000
set_option maxHeartbeats 4000000
namespace L2.Mi
open PySem PySem.Spec PyProof.Rows
theorem SmO.ex {o : Option HO} (h : SmO o) : ∃ u, o = some u ∧ NTb u := by
  cases o with
  | none => exact h.elim
  | some u => exact ⟨u, rfl, h⟩
theorem NTb.ne {u : HO} (h : NTb u) (ps : Array Value) : u ≠ .tbl ps := by
  rintro rfl
  exact h
/-- a table of code objects has grown -/
theorem Rl.lam {G : Gx} {ρ : Wd} {S : Store} {H H1 : Hp} (r : Rl G ρ S H) (e : LamX.ExtN H H1) (t : LamX.Tabs G.tabs H1) : Le G ρ H ρ H1 ∧ Rl G ρ S H1 := by
  have l : Le G ρ H ρ H1 := by
    refine ⟨List.prefix_refl _, rfl, fun a u i h => e a u h fun ps z => ?_, fun a xs _ h => e _ _ h (by intro ps z; cases z), fun a u _ k h => ?_, fun a n h => ⟨n, ?_⟩, fun a ha _ => ?_, fun a o u h => e _ _ h (by intro ps z; cases z)⟩
    · subst z
      exact i
    · rcases h with h | ⟨o, h⟩
      · refine .inl (e _ _ h fun ps z => ?_)
        subst z
        exact k
      · exact .inr ⟨o, e _ _ h (by intro ps z; cases z)⟩
    · obtain ⟨u, h1, h2⟩ := h.ex
      rw [e _ _ h1 h2.ne]
      exact h2
    · obtain ⟨u, h1, h2⟩ := (r.hh a ha).2.ex
      rw [e _ _ h1 h2.ne, h1]
  refine ⟨l, r.len, r.nd, fun a ha => ⟨(r.hh a ha).1, ?_⟩, fun i o h => ?_, t⟩
  · obtain ⟨u, h1, h2⟩ := (r.hh a ha).2.ex
    rw [e _ _ h1 h2.ne]
    exact h2
  · obtain ⟨a, u, h1, h2, h3⟩ := r.ob i o h
    exact ⟨a, u, h1, e _ _ h2 h3.ntb.ne, h3.mono l⟩
theorem re_repl {G : Gx} {ρ : Wd} {H : Hp} {σ : St} {n : Nat} (h : σ.length = n) : RE G ρ H (List.replicate n none) σ := by
  refine ⟨by simp [h], fun j d e => ?_⟩
  obtain ⟨_, e⟩ := List.getElem?_eq_some_iff.mp e
  simp at e
end L2.Mi

set_option Elab.async false
set_option linter.all false
set_option maxRecDepth 100000
set_option maxHeartbeats 4000000
namespace L2.Mi
open PySem PySem.Spec PyProof.Rows
section
variable {P : Program} {w : World} {K : Fg} {mg : Str → Option Value} {base : Heap} {cx : CXT} {k : Nat} {f : Addr} {name qual : Str} {params : Arguments} {body : List Stmt} {scope : Scope} {dvs : List V} {kws : List (Str × V)} {fd : FuncData} {N ps : List Str} {sp : Sp}
theorem fnGc_of (F : FunD K name qual params body scope dvs kws f fd) (S : FnScope N ps scope) (ln : ∀ vs H Q E, sp vs H Q E → vs.length = ps.length)
    (hb : ∀ (A : Around) (out : List Env) (s : Shared) (H : Hp) (vs : List V) (Q : VK) (E : XK), NoG A → Room k (A.deeper (envOfC qual scope s.heap.objs.size f fd.code)) → sp vs H Q E →
      ∃ t, PSs (cxOf cx P w K mg base N qual scope f fd.code A out s H E) body t ∧ t { nx := fun _ H2 => Q .non H2, rt := Q } (start N vs) H) : FnG P w K mg base cx (k + 1) f fd ps sp := by
  obtain ⟨oc, od, dV, kV, doc, pm, an, cdv, ct, osl, e0, look, hcd, _, _⟩ := F.ex
  subst e0
  refine ⟨ln, fun A out s H ar us vs Q E ng room env bnd rel hs => ?_⟩
  have inK : K.In s.heap := env.mod.kin.keeps fun b o q => (env.bs b o q).1
  have nl : s.heap.NoLimit := env.mod.nolimit.keeps fun b o q => (env.bs b o q).1
  have par : ∀ y ∈ ps.zip us, scope.names.lookup y.1 = some .local ∨ (scope.names.lookup y.1 = some .cell ∧ ((cellsFrom (s.heap.objs.size + 1) scope.names []).lookup y.1).isSome = true) := by
    rintro ⟨a, b⟩ hy
    refine (S.par a (List.of_mem_zip hy).1).imp id fun q => ⟨q, PySem.W.cellsFrom_some _ _ _ (.inl q)⟩
  refine codeAny_call_function room.depth (inK _ _ look) rfl S.co S.gen rfl (PySem.W.codeRec_of inK hcd) (bnd _ _ _ _ (wpAny_newFunctionEnv_cells S.kind par fun env2 he s1 x => ?_))
  subst he
  refine ⟨nl.keeps x.toInCall.keep, codeAny_func ?_⟩
  obtain ⟨t, ht, q⟩ := hb A out s H vs Q E ng (room.deeper _) hs
  have I : Inv (cxOf cx P w K mg base N qual scope f cdv A out s H E) [] (start N vs) H s1 := inv_start S room.hd env (ln _ _ _ _ hs) rel x
  refine wpAny_mono (ht.run [] s1 _ H _ I q) (fun fl s2 z => ?_) fun _ _ z => z
  cases fl with
  | ret u => obtain ⟨v, σ2, H2, J, rv, q2⟩ := z; exact ⟨v, H2, J.os, J.bare, J.base, J.hok, rv, q2⟩
  | next => obtain ⟨σ2, H2, J, q2⟩ := z; exact ⟨.non, H2, J.os, J.bare, J.base, J.hok, rfl, q2⟩
  | brk => obtain ⟨_, _, _, q2⟩ := z; exact q2.elim
  | cont => obtain ⟨_, _, _, q2⟩ := z; exact q2.elim
end
section
variable {G : Gx} {P : Program} {w : World} {mg : Str → Option Value} {base : Heap} {N ps : List Str} {x qual : Str} {params : Arguments} {body : List Stmt} {scope : Scope} {dvs : List V} {kws : List (Str × V)} {f : Addr} {fd : FuncData} {k : Nat} {ms : MS}
theorem fndL_ok (F : FunD G.K x qual params body scope dvs kws f fd) (S : FnScope N ps scope)
    (hb : ∀ (A : Around) (out : List Env) (s : Shared) (H : Hp) (E : XK), Room k (A.deeper (envOfC qual scope s.heap.objs.size f fd.code)) → NoG (A.deeper (envOfC qual scope s.heap.objs.size f fd.code)) →
      Cc G (cxOf (L2.CX P w) P w G.K mg base N qual scope f fd.code A out s H E) (WF E) → SSs G (cxOf (L2.CX P w) P w G.K mg base N qual scope f fd.code A out s H E) (WF E) body ms) :
    FnG P w G.K mg base (L2.CX P w) (k + 1) f fd ps (spF G (bodyRun N.length ms) ps.length) := by
  refine fnGc_of F S (fun vs H Q E ⟨_, _, _, h, _⟩ => h) fun A out s H vs Q E ng hr ⟨ρ, St, ds, hn, rl, rv, p⟩ => ?_
  refine ⟨_, hb A out s H E hr ng ⟨rfl, takes_of rfl rfl rfl rfl, passes_of rfl, rfl, S.nd⟩, ρ, _, St, rl, re_start rv, ?_⟩
  unfold bodyRun at p
  cases q : ms (ds.map some ++ List.replicate (N.length - ds.length) none) St with
  | rt d S1 => rw [q] at p; exact p
  | nx σ1 S1 => rw [q] at p; exact fun ρ1 H1 σ2 l1 rl1 re1 => p ρ1 H1 .non l1 rl1 .non
  | exc y σ1 S1 => rw [q] at p; exact fun ρ1 H1 σ2 c dd l1 rl1 re1 rx => p ρ1 H1 c dd l1 rl1 rx
  | bk σ1 S1 => rw [q] at p; exact p.elim
  | ct σ1 S1 => rw [q] at p; exact p.elim
  | bad => rw [q] at p; exact p.elim
end
/-- only the script and the table -/
def OnlyT (T : Addr) (H : Hp) : Prop := H T = some (.tbl #[]) ∧ ∀ b, H b = none ∨ b = T ∨ ∃ o xs, H b = some (.frz o (.lst xs))
section
variable {P : Program} {w : World} {K : Fg} {mg mb : Str → Option Value} {cx : CXT} {k : Nat} {fa a c T : Addr} {fd : FuncData} {x : Str} {sp : Sp} {s1 : Shared} {vs : List Value} {ns : List Int}
theorem law_callT (inK : K.In s1.heap) (hns : s1.heap.Ns mainGlobals mg) (hb : s1.heap.Ns builtinsNs mb) (hbb : ∀ x : Str, x ≠ "__name__" → mb x = bootBuiltins x) (nl : s1.heap.NoLimit) (hg : s1.gens = #[])
    (hT : s1.heap.get? T = some { cls := .none, data := .fields #[] }) (nT : K.lookup T = none) (hC : PySem.W.codeHdIn K c T = true)
    (hbm : ∃ (bm : Addr) (ob : Obj), mg "__builtins__" = some (.ref bm) ∧ bm ≠ builtinsNs ∧ s1.heap.get? bm = some ob ∧ ob.cls = .type "module" ∧ ob.dict = some builtinsNs ∧ ob.data = .plain)
    (ha : s1.heap.get? a = some { cls := .type "list", data := .seq vs.toArray }) (hi : IntsAre vs ns) (hl : ns.length ≤ sizeLine) (hr : Room k callerA)
    (F : ∀ base : Heap, K.In base → base.Ns mainGlobals mg → LamX.TabB base mg c T → FnG P w K mg base cx k fa fd [x] sp) (bnd : ∀ (s : Shared) (u : Value), BindsTo s fd ⟨[u], []⟩ [(x, u)])
    (hsp : ∀ H : Hp, OnlyT T H → SqL K H a (ns.map V.int) → sp [.ref a] H (fun v _ => v = .bl true) fun _ _ _ => False) (hcx : ∀ H e s2, cx [] H s1 (fun _ _ _ => False) e s2 → False) :
    codeAny (model P w) callerA (.call (.ref fa) ⟨[.ref a], []⟩) (fun r s2 => r = .ok (.ret (.bool true)) ∧ OldK s1.heap s2.heap ∧ s2.os = s1.os ∧ AllBare s2.gens) s1 := by
  have rel := vals_ints hi
  have len := hi.length
  have aT : a ≠ T := fun z => by
    rw [z, hT] at ha
    have z2 : Data.fields #[] = Data.seq vs.toArray _ := congrArg Obj.data (Option.some.inj ha)
    cases z2
  have main : ∀ H : Hp, OnlyT T H → SqL K H a (ns.map V.int) → HOk P w H s1.heap → (∀ b, H b ≠ none → b = a ∨ b = T) → (H a ≠ none → K.lookup a = none) →
      codeAny (model P w) callerA (.call (.ref fa) ⟨[.ref a], []⟩) (fun r s2 => r = .ok (.ret (.bool true)) ∧ OldK s1.heap s2.heap ∧ s2.os = s1.os ∧ AllBare s2.gens) s1 := by
    intro H only sq ok one out
    have free : ∀ {b : Addr} {o : Obj}, s1.heap.get? b = some o → (∀ u n, o.data ≠ .seq u n) → o.data ≠ .fields #[] → H b = none := fun {b o} e z1 z2 => by
      cases q : H b with
      | none => rfl
      | some u =>
        rcases one b (by rw [q]; simp) with y | y
        · rw [y, ha] at e; cases e; exact (z1 _ _ rfl).elim
        · rw [y, hT] at e; cases e; exact (z2 rfl).elim
    have nsk : ∀ {b : Addr} {m : Str → Option Value}, s1.heap.Ns b m → (hidT s1.heap H).Ns b m := fun {b m} ⟨o, es, ep, e, d, r⟩ => ⟨o, es, ep, hidT_get e (free e (fun u n z => by rw [d] at z; cases z) fun z => by rw [d] at z; cases z), d, r⟩
    have hK : K.In (hidT s1.heap H) := fun b o e => hidT_get (inK b o e) (by
      cases q : H b with
      | none => rfl
      | some u =>
        rcases one b (by rw [q]; simp) with y | y
        · rw [y] at e q; rw [out (by rw [q]; simp)] at e; cases e
        · rw [y, nT] at e; cases e)
    have md : Mod K mg (hidT s1.heap H) := ⟨hK, nsk hns, ⟨mb, nsk hb, hbb⟩, let ⟨mc, z1, z2⟩ := nl; ⟨mc, nsk z1, z2⟩⟩
    have noG : ∀ b : Addr, (∃ o, s1.heap.get? b = some o ∧ o.data = .plain) → b ≠ mainGlobals ∧ b ≠ T := fun b ⟨o, e, d⟩ => by
      refine ⟨fun z => ?_, fun z => ?_⟩
      · obtain ⟨o2, es, ep, e2, d2, _⟩ := hns
        rw [z, e2] at e; cases e; rw [d2] at d; cases d
      · rw [z, hT] at e; cases e; cases d
    have TB : LamX.TabB (hidT s1.heap H) mg c T := by
      refine ⟨PySem.W.codeHd_of_K hK hC, ?_, fun z => ?_⟩
      · obtain ⟨bm, ob, b1, b2, b3, b4, b5, b6⟩ := hbm
        obtain ⟨z1, z2⟩ := noG bm ⟨ob, b3, b6⟩
        exact ⟨bm, ob, b1, b2, z1, z2, hidT_get b3 (free b3 (fun u n z => by rw [b6] at z; cases z) fun z => by rw [b6] at z; cases z), b4, b5, b6⟩
      · obtain ⟨o2, es, ep, e2, d2, _⟩ := hns
        rw [z, hT] at e2; cases e2; cases d2
    have env : Env0 P w K mg (hidT s1.heap H) callerA [] s1 H := ⟨rfl, md, fun b o e => of_hidT e, Nat.le_of_eq (hidT_size _ _), trivial, fun b z => (List.not_mem_nil (show b ∈ ([] : List Addr) from z)).elim, ok, .of_eq hg⟩
    refine codeAny_mono ((F _ hK (nsk hns) TB).go callerA [] s1 H ⟨[.ref a], []⟩ [.ref a] [.ref a] _ _ rfl hr env (bnd s1 (.ref a)) (.cons rfl .nil) (hsp H only sq)) fun r s2 z => ?_
    cases r with
    | error e => exact (hcx H e s2 z).elim
    | ok fl => cases fl with
      | ret u =>
        obtain ⟨v, H2, z1, z2, un, ok2, rv, q⟩ := z
        have q2 : v = .bl true := q
        subst q2
        obtain rfl : u = Value.bool true := rv
        have key : ∀ b o, b ≠ T → s1.heap.get? b = some o → s2.heap.get? b = some o := fun b o nb e => by
          rcases only.2 b with z | z | ⟨ob, xs, z⟩
          · exact un.keep b o e z (fun y => (List.not_mem_nil (show b ∈ ([] : List Addr) from y)).elim) (by simp)
          · exact (nb z).elim
          · have y1 := (ok b _ z).1
            have y2 := (ok2 b _ (un.frzs b ob _ z)).1
            rw [e] at y1; cases y1
            exact y2
        obtain ⟨more, zt⟩ := un.tbls T #[] only.1
        have hT2 : s2.heap.get? T = some { cls := .none, data := .fields (#[] ++ more) } := ok2 T _ zt
        have hC1 : PySem.W.CodeHd s1.heap c T := PySem.W.codeHd_of_K inK hC
        refine ⟨rfl, ⟨fun b o e => ?_, fun b o e => ?_⟩, z1, z2⟩
        · by_cases y : b = T
          · subst y
            rw [hT] at e; cases e
            exact .inr (.inl ⟨(hC1.tab hT).isCodeTable, rfl, #[], more, rfl, hT2⟩)
          · exact .inl (key b o y e)
        · by_cases y : b = T
          · subst y; exact ⟨_, hT2⟩
          · exact ⟨o, key b o y e⟩
      | _ => exact False.elim z
  cases hk : K.lookup a with
  | some o =>
    have e := inK a o hk
    rw [ha] at e
    cases e
    let H : Hp := fun b => if b = T then some (.tbl #[]) else none
    have at1 : H T = some (.tbl #[]) := if_pos rfl
    have at2 : ∀ b, b ≠ T → H b = none := fun b z => if_neg z
    refine main H ⟨at1, fun b => ?_⟩ (.inr ⟨_, vs.toArray, _, hk, rfl, rfl, rfl, by rw [List.size_toArray, len]; exact hl, by simpa using rel⟩) (fun b u z => ?_) (fun b z => ?_) fun z => (z (at2 a aT)).elim
    · by_cases q : b = T
      · exact .inr (.inl q)
      · exact .inl (at2 b q)
    · by_cases q : b = T
      · subst q; rw [at1] at z; cases z; exact hT
      · rw [at2 b q] at z; cases z
    · by_cases q : b = T
      · exact .inr q
      · exact (z (at2 b q)).elim
  | none =>
    let ob : HO := .frz { cls := .type "list", data := .seq vs.toArray } (.lst (ns.map V.int))
    let H : Hp := fun b => if b = a then some ob else if b = T then some (.tbl #[]) else none
    have at1 : H a = some ob := if_pos rfl
    have at3 : H T = some (.tbl #[]) := (if_neg (fun z => aT z.symm)).trans (if_pos rfl)
    have at2 : ∀ b, b ≠ a → b ≠ T → H b = none := fun b z y => (if_neg z).trans (if_neg y)
    refine main H ⟨at3, fun b => ?_⟩ (.inl (.inr ⟨_, at1⟩)) (fun b u z => ?_) (fun b z => ?_) fun _ => hk
    · by_cases q : b = a
      · subst q; exact .inr (.inr ⟨_, _, at1⟩)
      · by_cases q2 : b = T
        · exact .inr (.inl q2)
        · exact .inl (at2 b q q2)
    · by_cases q : b = a
      · subst q
        rw [at1] at z; cases z
        exact ⟨ha, by rw [List.length_map]; exact hl, vs, _, rel, ha⟩
      · by_cases q2 : b = T
        · subst q2; rw [at3] at z; cases z; exact hT
        · rw [at2 b q q2] at z; cases z
    · by_cases q : b = a
      · exact .inl q
      · by_cases q2 : b = T
        · exact .inr q2
        · exact (z (at2 b q q2)).elim
end
theorem startT_ok {G : Gx} {H : Hp} {T a : Addr} {q : Str} {ns : List Int} (hT : G.tabs = [(T, q)]) (ho : OnlyT T H) (hS : SqL G.K H a (ns.map V.int)) : Rl G ⟨[], []⟩ ⟨[]⟩ H ∧ RV G ⟨[], []⟩ H (.fl (ns.map D.int)) (.ref a) := by
  refine ⟨⟨rfl, List.nodup_nil, fun b h => (List.not_mem_nil h).elim, fun i o h => ?_, fun p hp => ?_⟩, .fl ?_ (ints_rel ns)⟩
  · cases h
  · rw [hT] at hp
    rw [List.mem_singleton.mp hp]
    exact LamX.TabS.nil ho.1
  · rcases hS with (h | h) | h
    · rcases ho.2 a with z | z | ⟨o, xs, z⟩
      · rw [h] at z; cases z
      · rw [z, ho.1] at h; cases h
      · rw [h] at z; cases z
    · exact .inl h
    · exact .inr (.inr h)
theorem tbB_ok {L : Lw} {K : Fg} (c : L.Says K) (i : Nat) {x q : Str} (ht : L.tab = some (x, q)) (h : L.fa[i]? = some (tbB x)) : ∃ p, PySem.W.tabIn K x = some p ∧ K.lookup p.2 = none ∧ PySem.W.codeHdIn K p.1 p.2 = true ∧ (L.gx K c).tabs = [(p.2, q)] := by
  have z := c.fact i h
  have z2 : (match PySem.W.tabIn K x with | some p => (K.lookup p.2).isNone && PySem.W.codeHdIn K p.1 p.2 | none => false) = true := z
  cases e : PySem.W.tabIn K x with
  | none => rw [e] at z2; cases z2
  | some p =>
    rw [e] at z2
    obtain ⟨h1, h2⟩ := ba z2
    refine ⟨p, rfl, Option.isNone_iff_eq_none.mp h1, h2, ?_⟩
    show L.tabsA K = _
    unfold Lw.tabsA
    simp only [ht, e]
theorem walkT {l : PySem.W.OpenLaw} {n k : Nat} {q : Program} {loose : List Str} {XP : (Str → Option Value) → Heap → Prop} {L : Lw} {N : Nat} {d dr : DefRec} {x lx lq : Str} {run : FN}
    (hn : l.most = some n) (hn2 : n ≤ sizeLine) (hdf : d.params.defaults = []) (hr : Room k callerA) (hrec : (recsOf q).find? (fun e => e.name == lx) = some dr) (i : Nat) (ht : L.tab = some (lx, lq)) (hi : L.fa[i]? = some (tbB lx))
    (F : ∀ (w : World) (mg : Str → Option Value) (fa : Addr) (K : Fg) (c : L.Says K), Ns K mg → mg d.name = some (.ref fa) →
      ∃ fd : FuncData, (∀ (s : Shared) (u : Value), BindsTo s fd ⟨[u], []⟩ [(x, u)]) ∧ ∀ (p : Addr × Addr), PySem.W.tabIn K lx = some p → (L.gx K c).tabs = [(p.2, lq)] → ∀ base : Heap, K.In base → base.Ns mainGlobals mg → LamX.TabB base mg p.1 p.2 → FnG l.prog w K mg base (L2.CX l.prog w) k fa fd [x] (spF (L.gx K c) run 1))
    (good : ∀ ns : List Int, ns.length ≤ n → (∀ z ∈ ns, Builtin.Int.intBits z ≤ 1048576) → ∃ S, run [.fl (ns.map D.int)] ⟨[]⟩ = .ok (.bl true) S) :
    PySem.W.WalkO q loose XP (L.hook N).says l.row.toRowW d [] (fun f vs => PySem.call f vs) := by
  refine Att.attach_callB hn hdf fun w s0 s1 mg mb fa o pm cd doc a vs ns T ⟨K, KX, c⟩ ho hd hcd hmg hobj hints hlen hbits hg => ?_
  obtain ⟨fd, hb, hF⟩ := F w mg fa K c ⟨_, KX, T.T.g⟩ hmg
  obtain ⟨p, e1, e2, e3, e4⟩ := tbB_ok c i ht hi
  obtain ⟨_, e5⟩ := PySem.W.tab_of T.T KX hrec e1
  refine law_callT KX T.T.g T.T.b T.T.builtins T.T.nolimit hg e5 e2 e3 T.T.bmain hobj hints (Nat.le_trans hlen hn2) hr (hF p e1 e4) hb (fun H hO hS => ?_) fun H e s2 h => ?_
  · obtain ⟨rl, rv⟩ := startT_ok (G := L.gx K c) e4 hO hS
    obtain ⟨S, e⟩ := good ns hlen hbits
    refine ⟨⟨[], []⟩, ⟨[]⟩, _, rfl, rl, .cons rv .nil, ?_⟩
    rw [e]
    intro ρ2 H2 v _ _ r
    cases r
    rfl
  · obtain ⟨_, _, _, _, _, _, _, _, _, _, _, _, z⟩ := h
    exact z.elim
end L2.Mi

set_option Elab.async false
set_option linter.all false
set_option maxRecDepth 100000
set_option maxHeartbeats 4000000
namespace L2.Mi
open PySem PySem.Spec PyProof.Rows
theorem code_of {K : Fg} {x qual : Str} {params : Arguments} {body : List Stmt} {scope : Scope} {dvs : List V} {kws : List (Str × V)} {fd : FuncData} {p : Addr × Addr} (F : FunD K x qual params body scope dvs kws (He.ga K x) fd) (h : PySem.W.tabIn K x = some p) : fd.code = .ref p.1 := by
  obtain ⟨oc, od, dV, kV, doc, pm, an, cdv, ct, osl, e0, look, hcg, _, _⟩ := F.ex
  unfold PySem.W.tabIn at h
  unfold He.ga at look
  split at h
  · rename_i f hf
    rw [hf] at look
    simp only [look] at h
    split at h
    · rename_i c hc
      split at h
      · split at h
        · cases h
          exact hc
        · cases h
      · cases h
    · cases h
  · cases h
structure CkS (G : Gx) (X : Cx) : Prop where
  k : X.K = G.K
end L2.Mi

set_option Elab.async false
set_option linter.all false
set_option maxRecDepth 100000
set_option maxHeartbeats 4000000
namespace L2.Mi
open PySem
variable {sg : List Nat} {ks : List (List Nat)}
/-- a number of free digits, none of them 0 -/
structure Num (w : List Nat) : Prop where
  ne : w ≠ []
  dg : ∀ c ∈ w, 49 ≤ c ∧ c ≤ 57
theorem Num.kind {w : List Nat} (h : Num w) (hk : ∀ k ∈ ks, ∀ c t, k = c :: t → 57 < c) (hn : ∀ k ∈ ks, k ≠ []) : kindS ks w = NUMB := by
  cases w with
  | nil => exact absurd rfl h.ne
  | cons c r =>
    obtain ⟨h1, h2⟩ := h.dg c (List.mem_cons_self ..)
    have e1 : (ks.any (· == c :: r)) = false := by
      rw [List.any_eq_false]
      intro k hk1 z
      have z := eq_of_beq z
      have := hk k hk1 c r z
      omega
    have e2 : decide (c ∈ LETS) = false := by
      rw [decide_eq_false_iff_not]
      unfold LETS
      simp only [List.mem_cons, List.not_mem_nil, or_false, not_or]
      omega
    have e3 : allD (c :: r) = true := by
      unfold allD
      rw [List.all_eq_true]
      intro x hx
      obtain ⟨g1, g2⟩ := h.dg x hx
      rw [decide_eq_true_eq]
      unfold DIGS
      simp only [List.mem_cons, List.not_mem_nil, or_false]
      omega
    have e4 : (c == 48) = false := by
      rw [beq_eq_false_iff_ne]
      omega
    unfold kindS
    simp only [e1, e2, e3, e4, Bool.false_eq_true, if_false, if_true, Bool.false_and]
end L2.Mi

set_option Elab.async false
set_option linter.all false
set_option maxRecDepth 100000
set_option maxHeartbeats 4000000
namespace L2.Mi
open PySem PySem.Spec PyProof.Rows
def matD (f : D → D → Store → Res D) (d : D) : List (Option D × MS) → MS
  | [] => sNext
  | (none, k) :: _ => k
  | (some c, k) :: r => fun σ S => match f d c S with
    | .ok (.bl true) S1 => k σ S1
    | .ok (.bl false) S1 => matD f d r σ S1
    | _ => .bad
structure SCs (G : Gx) (X : Cx) (W : WX) (f : D → D → Store → Res D) (cases : List MatchCase) (cs : List (Option D × MS)) : Prop where
  run : ∀ (first : Bool) (pins : List (Addr × Obj)) (s : Shared) (σ : St) (H : Hp) (v : Value) (x : V) (Dn : Ends) (ρ : Wd) (σs : En) (S : Store) (d : D), Inv X pins σ H s → RelV x v → Rl G ρ S H → RE G ρ H σs σ → RV G ρ H d x →
    PostS G ρ H (matD f d cs σs S) Dn W → wpAny (model X.prog X.w) X.A (matchCases cases X.env v first) (SP X pins Dn) X.xe s
end L2.Mi

set_option Elab.async false
set_option linter.all false
set_option maxRecDepth 100000
set_option maxHeartbeats 4000000
namespace L2.Mi
open PySem PySem.Spec PyProof.Rows
section
variable {G : Gx} {X : Cx} {W : WX} {o e : Expr} {es : List Expr} {m mo : ME} {ma r : MA} {p pos apos : Pos} {name : Str}
structure MethB (G : Gx) (X : Cx) (name : Str) (k c : Nat) (g : FN) : Prop where
  ex : ∃ C f, G.cls c = some C ∧ Cls X.K C ∧ BMeth X.K C name f ∧ Cal G X.prog X.w X.mg X.base k f g
end
section
variable {L : Lw} {K : Fg} {X : Cx} {C m : Str} {g : FN} {k : Nat}
def bmB (C m : Str) : Fm := .raw fun K => He.eqO (PySem.W.specialIn K (.ref (He.ma K (He.ga K C) m)) "__get__") (some (some (.builtin "function.__get__"))) && (decide (PySem.W.takesIn K (.ref (He.ma K (He.ga K C) m)) = some false) && PySem.W.fnIn K (He.ma K (He.ga K C) m))
end
end L2.Mi

set_option Elab.async false
set_option linter.all false
set_option maxRecDepth 100000
set_option maxHeartbeats 4000000
namespace L2.Mi
open PySem PySem.Spec PyProof.Rows
def eqKDs : List D → List D → Bool
  | [], [] => true
  | d :: ds, e :: es => eqKD d e && eqKDs ds es
  | _, _ => false
def eqKT : D → D → Bool
  | .tup ds, .tup es => eqKDs ds es
  | _, _ => false
def valT (kvs : List (D × D)) (k : D) : Option D := (kvs.find? fun q => eqKT q.1 k).map (·.2)
def putT (kvs : List (D × D)) (k v : D) : List (D × D) := if (kvs.any fun q => eqKT q.1 k) = true then kvs.map (fun q => if eqKT q.1 k then (q.1, v) else q) else kvs ++ [(k, v)]
section
variable {G : Gx} {ρ : Wd} {H : Hp}
theorem RTs.append : ∀ {a b : List (D × D)} {x y : List (List Key × V)}, RTs G ρ H a x → RTs G ρ H b y → RTs G ρ H (a ++ b) (x ++ y)
  | _, _, _, _, .nil, r => r
  | _, _, _, _, .cons h r t, s => .cons h r (RTs.append t s)
theorem RTs.len : ∀ {a : List (D × D)} {x : List (List Key × V)}, RTs G ρ H a x → a.length = x.length
  | _, _, .nil => rfl
  | _, _, .cons _ _ t => by simp [RTs.len t]
theorem RTs.mono {ρ' : Wd} {H' : Hp} (l : Le G ρ H ρ' H') {ds : List (D × D)} {vs : List (List Key × V)} (r : RTs G ρ H ds vs) : RTs G ρ' H' ds vs := r.move l.mv
end
section
variable {G : Gx} {ρ : Wd} {H : Hp} {S : Store} {X : Cx} {W : WX} {o e f i value : Expr} {mo me mf mv : ME} {pos pos' apos cpos : Pos}
theorem RTs.get : ∀ {kvs : List (D × D)} {kus : List (List Key × V)} {i : Nat} {q : D × D}, RTs G ρ H kvs kus → kvs[i]? = some q → ∃ k v, kus[i]? = some (k, v) ∧ keyT q.1 = some k
  | _, _, _, _, .nil, h => by simp at h
  | _, _, 0, _, .cons (k := k) (v := v) h r t, q => by simp at q; subst q; exact ⟨k, v, rfl, h⟩
  | _, _, i + 1, q, .cons h r t, z => by
    obtain ⟨k, v, h1, h2⟩ := RTs.get (i := i) (q := q) t (by simpa using z)
    exact ⟨k, v, by simpa using h1, h2⟩
end
end L2.Mi

set_option Elab.async false
set_option linter.all false
set_option maxRecDepth 100000
set_option maxHeartbeats 4000000
set_option Elab.async false
set_option linter.all false
set_option maxRecDepth 100000
set_option maxHeartbeats 4000000
set_option Elab.async false
set_option linter.all false
set_option maxRecDepth 100000
set_option maxHeartbeats 4000000
set_option Elab.async false
set_option linter.all false
set_option maxRecDepth 100000
set_option maxHeartbeats 4000000
namespace L2.Mi
open PySem PySem.Spec PyProof.Rows
section
variable {G : Gx} {X : Cx} {W : WX} {ρ : Wd} {H : Hp} {S : Store}
def datsOf (S : Store) (x y : D) : Option (PyData × List PyData) := match dat 64 S x, dat 64 S y with
  | some d, some (.list ds) => if SeqAt.shaped d && SeqAt.shaped (.list ds) then some (d, ds) else none
  | _, _ => none
theorem datsOf_ok {x y : D} {d : PyData} {ds : List PyData} (h : datsOf S x y = some (d, ds)) : dat 64 S x = some d ∧ dat 64 S y = some (.list ds) ∧ SeqAt.shaped d = true ∧ SeqAt.shaped (.list ds) = true := by
  unfold datsOf at h
  cases q1 : dat 64 S x with
  | none => rw [q1] at h; cases h
  | some a =>
    cases q2 : dat 64 S y with
    | none => rw [q1, q2] at h; cases h
    | some b =>
      rw [q1, q2] at h
      cases b with
      | list bs =>
        simp only at h
        by_cases c : (SeqAt.shaped a && SeqAt.shaped (.list bs)) = true
        · rw [if_pos c] at h
          cases h
          obtain ⟨c1, c2⟩ := ba c
          exact ⟨rfl, rfl, c1, c2⟩
        · rw [if_neg c] at h
          cases h
      | _ => cases h
def findE (d : PyData) : List PyData → Nat → Option Nat
  | [], _ => none
  | z :: zs, i => if PyData.eqv z d then some i else findE d zs (i + 1)
theorem findE_ok (d : PyData) : ∀ (ds : List PyData) (i j : Nat), findE d ds i = some j → i ≤ j ∧ (∃ z, ds[j - i]? = some z ∧ PyData.eqv z d = true) ∧ ∀ (m : Nat) (z' : PyData), m < j - i → ds[m]? = some z' → PyData.eqv z' d = false
  | [], i, j, h => by cases h
  | z :: zs, i, j, h => by
    unfold findE at h
    cases q : PyData.eqv z d with
    | true =>
      rw [q, if_pos rfl] at h
      cases h
      refine ⟨Nat.le_refl _, ⟨z, by simp, q⟩, fun m z' hm => absurd hm (by omega)⟩
    | false =>
      rw [q, if_neg Bool.false_ne_true] at h
      obtain ⟨h1, ⟨w, h2, h3⟩, h4⟩ := findE_ok d zs (i + 1) j h
      have e : j - i = (j - (i + 1)) + 1 := by omega
      refine ⟨by omega, ⟨w, by rw [e, List.getElem?_cons_succ]; exact h2, h3⟩, fun m z' hm hz => ?_⟩
      cases m with
      | zero => simp at hz; subst hz; exact q
      | succ m => exact h4 m z' (by omega) (by simpa using hz)
def indexF : D → List D → Store → Res D := fun o xs S => match xs with
  | [y] => (match datsOf S y o with
    | some (d, ds) => (match findE d ds 0 with | some j => .ok (.int (j : Int)) S | none => .bad)
    | none => .bad)
  | _ => .bad
theorem mts_index (cc : Cc G X W) (hu : X.A.units + 65 < cLine) : MtS G X W "list.index" indexF := MtS.of (mt_indexD hu) fun ρ S H d ds x xs Q E rl r1 r2 p => by
  unfold indexF at p
  match ds, r2, p with
  | [y], .cons (v := z) r .nil, p =>
    cases q : datsOf S y d with
    | none => simp only [q] at p; exact p.elim
    | some w =>
      obtain ⟨e, es⟩ := w
      simp only [q] at p
      obtain ⟨h1, h2, h3, h4⟩ := datsOf_ok q
      cases q2 : findE e es 0 with
      | none => simp only [q2] at p; exact p.elim
      | some j =>
        simp only [q2] at p
        obtain ⟨_, ⟨w, k1, k2⟩, k3⟩ := findE_ok e es 0 j q2
        have hx := dat_rel rl 64 d x _ r1 h2
        have hd : ∃ a, x = V.ref a := by cases hx; exact ⟨_, rfl⟩
        obtain ⟨a, rfl⟩ := hd
        exact ⟨a, z, e, es, j, w, rfl, rfl, by rw [cc.k]; exact hx, by rw [cc.k]; exact dat_rel rl 64 y z _ r h1, h4, h3, by simpa using k1, k2, fun m z' hm => k3 m z' (by simpa using hm), post_ok p rl (.int _)⟩
  | [], _, p => exact p.elim
  | _ :: _ :: _, _, p => exact p.elim
end
end L2.Mi

set_option Elab.async false
set_option linter.all false
set_option maxRecDepth 100000
set_option maxHeartbeats 4000000
namespace L2.Mi
open PySem PySem.Spec PyProof.Rows
section
variable {G : Gx} {X : Cx} {W : WX} {ρ : Wd} {H : Hp} {S : Store}
theorem RVs.take {ds : List D} {xs : List V} : ∀ (n : Nat), RVs G ρ H ds xs → RVs G ρ H (ds.take n) (xs.take n)
  | 0, _ => by simp only [List.take_zero]; exact .nil
  | n + 1, .nil => by simp only [List.take_nil]; exact .nil
  | n + 1, .cons h t => by simp only [List.take_succ_cons]; exact .cons h (RVs.take n t)
theorem RVs.rep {ds : List D} {xs : List V} (r : RVs G ρ H ds xs) (n : Nat) : RVs G ρ H (List.replicate n ds).flatten (List.replicate n xs).flatten := by
  induction n with
  | zero => exact .nil
  | succ n ih => rw [List.replicate_succ, List.replicate_succ]; exact r.append ih
end
end L2.Mi

set_option Elab.async false
set_option linter.all false
set_option maxRecDepth 100000
set_option maxHeartbeats 4000000
namespace L2.Mi
open PySem PySem.Spec PyProof.Rows
structure Mk0 (K : PySem.W.Frag) (C : Addr) : Prop where
  makes : PySem.W.makesIn K C = true
  init : PySem.W.findIn K (.ref C) "__init__" = some (some (.builtin "object.__init__"))
section
variable {G : Gx} {X : Cx} {W : WX} {C : Addr} {c : Nat}
theorem shown {ρ1 ρ2 : Wd} {H1 H2 : Hp} {S1 S2 : Store} {Dl : Addr} {u0 u : HO} {o : Ob} (rl1 : Rl G ρ1 S1 H1) (hD : H1 Dl = none) (l3 : Le G ⟨ρ1.v, Dl :: ρ1.h⟩ (L2.upd H1 Dl u0) ρ2 H2) (rl2 : Rl G ρ2 S2 H2) (hDl : H2 Dl = some u) (ro : RO G ρ2 H2 o u) :
    Le G ρ1 H1 ⟨ρ2.v ++ [Dl], ρ1.h⟩ H2 ∧ Rl G ⟨ρ2.v ++ [Dl], ρ1.h⟩ (S2.push o) H2 ∧ RV G ⟨ρ2.v ++ [Dl], ρ1.h⟩ H2 (.ref S2.size) (.ref Dl) := by
  have hid : ρ2.h = Dl :: ρ1.h := l3.hid
  have hh1 : ∀ b, b ∈ ρ1.h → H1 b ≠ none := fun b hb => (rl1.hh b hb).2.ne
  have lo : Le G ρ1 H1 ⟨ρ2.v, ρ1.h⟩ H2 := Le.hide hD hh1 l3
  have e2 : ρ2 = ⟨ρ2.v, Dl :: ρ1.h⟩ := by rw [← hid]
  have nDv : Dl ∉ ρ2.v := (rl2.hh Dl (by rw [hid]; simp)).1
  have nDh : Dl ∉ ρ1.h := fun z => hh1 Dl z hD
  have mvs : Mv G ρ2 H2 ⟨ρ2.v ++ [Dl], ρ1.h⟩ H2 := by
    have z : Mv G ⟨ρ2.v, Dl :: ρ1.h⟩ H2 ⟨ρ2.v ++ [Dl], ρ1.h⟩ H2 := Mv.show
    rw [← e2] at z
    exact z
  refine ⟨⟨lo.pre.trans (List.prefix_append _ _), rfl, lo.tk, lo.kl, lo.kp, fun a na ha => ?_, lo.kh, lo.kz⟩, ⟨by simp [rl2.len, Store.size_push], ?_, fun a ha => ?_, fun j ob e => ?_, rl2.tb⟩, .ref (by rw [← rl2.len]; simp)⟩
  · have z := lo.ni a na ha
    have ne : a ≠ Dl := fun z => ha.ne (by rw [z]; exact hD)
    exact ⟨⟨by simp [z.1.1, ne], z.1.2⟩, z.2⟩
  · show (ρ2.v ++ [Dl]).Nodup
    rw [List.nodup_append]
    refine ⟨rl2.nd, by simp, fun a ha b hb => ?_⟩
    simp only [List.mem_singleton] at hb
    subst hb
    rintro rfl
    exact nDv ha
  · obtain ⟨h1, h2⟩ := rl2.hh a (by rw [hid]; exact List.mem_cons_of_mem _ ha)
    have ne : a ≠ Dl := fun z => nDh (by rw [← z]; exact ha)
    exact ⟨by simp [h1, ne], h2⟩
  · by_cases hj : j = S2.size
    · subst hj
      rw [Store.get_push_same] at e
      cases e
      exact ⟨Dl, u, by rw [← rl2.len]; simp, hDl, ro.move mvs⟩
    · rw [Store.get_push_ne hj] at e
      obtain ⟨a, w, h1, h2, h3⟩ := rl2.ob j ob e
      exact ⟨a, w, pre_get (List.prefix_append _ _) h1, h2, h3.move mvs⟩
end
end L2.Mi

set_option Elab.async false
set_option linter.all false
set_option maxRecDepth 100000
set_option maxHeartbeats 4000000
set_option Elab.async false
set_option linter.all false
set_option maxRecDepth 100000
set_option maxHeartbeats 4000000
namespace L2.Mi
open PySem PySem.Spec PyProof.Rows
def ItS (K : PySem.W.Frag) (a b : Addr) : It := ⟨(Itz K a b).go, (Itz K a b).yld, fun i H => ∃ xs ys : List V, SqL K H a xs ∧ SqL K H b ys ∧ xs.length ≤ i ∧ ys.length ≤ i⟩
def zsL (a b : D) : Src := fun k S => match listAt S a, listAt S b with
  | some xs, some ys => (match xs[k]?, ys[k]? with
    | some x, some y => some (some (.tup [x, y]))
    | none, none => some none
    | _, _ => none)
  | _, _ => none
def iZip2 (m1 m2 : ME) : MI := fun σ S => (aList [m1, m2] σ S).bind fun ds S1 => match ds with
  | [a, b] => (match listAt S1 a, listAt S1 b with
    | some _, some _ => .ok (zsL a b) S1
    | _, _ => .bad)
  | _ => .bad
section
variable {G : Gx} {X : Cx} {W : WX} {e e2 : Expr} {m1 m2 : ME} {p pos tpos p1 p2 : Pos} {j : Nat} {es : List Expr} {n : Nat}
theorem zs_jr {ρ0 : Wd} {H0 : Hp} {d1 d2 : D} {a b : Addr} (r1 : RV G ρ0 H0 d1 (.ref a)) (r2 : RV G ρ0 H0 d2 (.ref b)) : JR G ρ0 H0 (zsL d1 d2) (ItS G.K a b) := by
  intro ρ S H l kz rl i
  cases q1 : listAt S d1 with
  | none => refine ⟨fun d h => ?_, fun h => ?_⟩ <;> (unfold zsL at h; rw [q1] at h; cases h)
  | some xs =>
    cases q2 : listAt S d2 with
    | none => refine ⟨fun d h => ?_, fun h => ?_⟩ <;> (unfold zsL at h; rw [q1, q2] at h; cases h)
    | some ys =>
      obtain ⟨a', us, e1, s1, h1⟩ := listAt_rel rl (r1.move l) q1
      obtain ⟨b', vs, e2, s2, h2⟩ := listAt_rel rl (r2.move l) q2
      cases e1; cases e2
      unfold zsL; rw [q1, q2]
      dsimp only
      cases g1 : xs[i]? with
      | none =>
        cases g2 : ys[i]? with
        | none => exact ⟨fun _ h => (nomatch (Option.some.inj h)), fun _ => ⟨us, vs, s1, s2, by rw [← h1.length]; exact List.getElem?_eq_none_iff.mp g1, by rw [← h2.length]; exact List.getElem?_eq_none_iff.mp g2⟩⟩
        | some y => exact ⟨fun _ h => (nomatch h), fun h => (nomatch h)⟩
      | some x =>
        cases g2 : ys[i]? with
        | none => exact ⟨fun _ h => (nomatch h), fun h => (nomatch h)⟩
        | some y =>
          refine ⟨fun d h => ?_, fun h => nomatch (Option.some.inj h)⟩
          cases h
          obtain ⟨u, k1, t1⟩ := h1.get g1
          obtain ⟨v, k2, t2⟩ := h2.get g2
          refine ⟨⟨us, vs, u, v, s1, s2, k1, k2⟩, fun z H' ⟨T, u', v', e3, hT, e4, f1, f2⟩ => ?_⟩
          have w1 := f1 us s1; have w2 := f2 vs s2
          rw [k1] at w1; rw [k2] at w2
          cases w1; cases w2
          subst e3 e4
          exact ⟨Le.new hT, rl.other hT, .tup upd_same (.cons (t1.mono (Le.new hT)) (.cons (t2.mono (Le.new hT)) .nil))⟩
end
end L2.Mi

set_option Elab.async false
set_option linter.all false
set_option maxRecDepth 100000
set_option maxHeartbeats 4000000
set_option Elab.async false
set_option linter.all false
set_option maxRecDepth 100000
set_option maxHeartbeats 4000000
set_option Elab.async false
set_option linter.all false
set_option maxRecDepth 100000
set_option maxHeartbeats 1000000
namespace L2.Mi
open PySem
/-- labels: of a Memory (mo .. wo), of a law's own player (pw .. en), others -/
inductive Lb where
  | mo (w : Nat) | mc (w : Nat) | mh (w : Nat) | ms (w l j : Nat) | mp (w l j : Nat) | ca (w : Nat) | wo (w : Nat)
  | pw | pt | ps | px | ph | pp (l j : Nat) | pe (l j : Nat) | pl (l j : Nat) | pb (l j : Nat) | en (l j i : Nat)
  | ot (n : Nat)
  deriving DecidableEq
abbrev LX := Lb → Option Ob
def up {L α : Type} [DecidableEq L] (X : L → α) (l : L) (o : α) : L → α := fun k => if k = l then o else X k
section
variable {L α : Type} [DecidableEq L] {X : L → α} {l k : L} {o o' : α}
@[simp] theorem up_same : up X l o l = o := by unfold up; rw [if_pos rfl]
theorem up_ne (h : k ≠ l) : up X l o k = X k := by unfold up; rw [if_neg h]
end
structure Rep (S : Store) (A : Lb → Nat) (X : LX) : Prop where
  get : ∀ l o, X l = some o → S.get (A l) = some o
  inj : ∀ l l' o o', X l = some o → X l' = some o' → A l = A l' → l = l'
namespace Rep
variable {S : Store} {A : Lb → Nat} {X : LX} {l : Lb} {o o' : Ob}
theorem lt (h : Rep S A X) (e : X l = some o) : A l < S.size := Store.get_lt (h.get l o e)
theorem set (h : Rep S A X) (e : X l = some o) (o' : Ob) : Rep (S.set (A l) o') A (up X l (some o')) := by
  refine ⟨fun k u z => ?_, fun k k' u u' z z' q => ?_⟩
  · by_cases hk : k = l
    · subst hk
      rw [up_same] at z
      cases z
      exact Store.get_set_same (h.lt e)
    · rw [up_ne hk] at z
      rw [Store.get_set_ne (fun q => hk (h.inj k l _ _ z e q.symm))]
      exact h.get k u z
  · have key : ∀ k u, up X l (some o') k = some u → ∃ v, X k = some v := fun k u z => by
      by_cases hk : k = l
      · subst hk; exact ⟨_, e⟩
      · rw [up_ne hk] at z; exact ⟨_, z⟩
    obtain ⟨v, hv⟩ := key k u z
    obtain ⟨v', hv'⟩ := key k' u' z'
    exact h.inj k k' v v' hv hv' q
theorem push (h : Rep S A X) : Rep (S.push o) A X := ⟨fun k u z => Store.get_push_some (h.get k u z), h.inj⟩
/-- a new thing, named -/
theorem new (h : Rep S A X) (e : X l = none) : Rep (S.push o) (up A l S.size) (up X l (some o)) := by
  have ne : ∀ k u, X k = some u → k ≠ l := fun k u z q => by subst q; rw [e] at z; cases z
  refine ⟨fun k u z => ?_, fun k k' u u' z z' q => ?_⟩
  · by_cases hk : k = l
    · subst hk
      rw [up_same] at z ⊢
      cases z
      exact Store.get_push_same
    · rw [up_ne hk] at z ⊢
      exact Store.get_push_some (h.get k u z)
  · by_cases hk : k = l
    · by_cases hk' : k' = l
      · rw [hk, hk']
      · rw [hk, up_same, up_ne hk'] at q
        rw [up_ne hk'] at z'
        have := h.lt z'
        omega
    · by_cases hk' : k' = l
      · rw [hk', up_same, up_ne hk] at q
        rw [up_ne hk] at z
        have := h.lt z
        omega
      · rw [up_ne hk, up_ne hk'] at q
        rw [up_ne hk] at z
        rw [up_ne hk'] at z'
        exact h.inj k k' _ _ z z' q
/-- less is known -/
theorem sub {Y : LX} (h : Rep S A X) (s : ∀ l o, Y l = some o → X l = some o) : Rep S A Y := ⟨fun l o e => h.get l o (s l o e), fun l l' o o' e e' q => h.inj l l' o o' (s l o e) (s l' o' e') q⟩
end Rep
end L2.Mi

set_option Elab.async false
set_option linter.all false
set_option maxRecDepth 100000
set_option maxHeartbeats 1000000
namespace L2.Mi.Me
open PySem
inductive Rle where
  | used | brought | second | tree
  deriving DecidableEq
structure Lev where
  sets : Nat
  ways : Nat
  rule : Rle
  thr : Bool
structure Ent where
  a : Int
  l : Int
  w : Bool
  n : Int
  deriving DecidableEq
abbrev Tg := Int × Int
inductive Ex where
  | non | sec (p : Nat) (lit : List Bool) | tree (b : List Bool)
structure SS where
  pl : List (Option Ent)
  ex : Ex
structure Cfg where
  line : Int
  lv : List Lev
  bs : List Int
structure MSt where
  st : Nat → Nat → SS
  sh : Nat → List Tg
  cnt : List (D × D)
  played : Int
def Ent.t (e : Ent) : Tg := (e.a, e.l)
def kBack (l : Nat) : D := .tup [.str [98, 97, 99, 107], .int (l : Int)]
def cntOf (c : List (D × D)) (k : D) : Int := match valT c k with
  | some (.int i) => i
  | _ => 0
def noteC (c : List (D × D)) (k : D) : List (D × D) := putT c k (.int (cntOf c k + 1))
namespace MSt
def put (M : MSt) (l j : Nat) (s : SS) : MSt := { M with st := fun a b => if a = l ∧ b = j then s else M.st a b }
end MSt
def Cfg.lev (C : Cfg) (l : Nat) : Lev := (C.lv[l]?).getD ⟨1, 1, .used, false⟩
def others (t : Tg) (s : List Tg) : List Tg := s.filter fun o => !(o.1 == t.1 && o.2 == t.2)
def ExOk (r : Rle) (ways : Nat) : Ex → Prop
  | .non => r = .used ∨ r = .brought
  | .sec p lit => r = .second ∧ p < ways ∧ lit.length = ways
  | .tree b => r = .tree ∧ b.length = ways - 1
structure LevOk (v : Lev) : Prop where
  s0 : 1 ≤ v.sets
  s1 : v.sets ≤ 8
  w0 : 1 ≤ v.ways
  w1 : v.ways ≤ 4
  tr : v.rule = .tree → v.ways ≠ 3
structure SOk (v : Lev) (s : SS) : Prop where
  ln : s.pl.length = v.ways
  ex : ExOk v.rule v.ways s.ex
structure CntOk (c : List (D × D)) : Prop where
  iv : ∀ q ∈ c, ∃ i, q.2 = .int i
  kt : ∀ q ∈ c, ∃ ks, keyT q.1 = some ks
  dk : c.Pairwise fun p q => eqKT p.1 q.1 = false
def TgOk (C : Cfg) (t : Tg) : Prop := ∃ b, L2.atI C.bs t.1 = some b
structure MOk (C : Cfg) (M : MSt) : Prop where
  s : ∀ l v j, C.lv[l]? = some v → j < v.sets → SOk v (M.st l j)
  h : ∀ l v, C.lv[l]? = some v → (M.sh l).length ≤ v.sets * v.ways
  c : CntOk M.cnt
  t : ∀ l v j e, C.lv[l]? = some v → j < v.sets → some e ∈ (M.st l j).pl → TgOk C e.t
structure CfgOk (C : Cfg) : Prop where
  n : C.lv.length ≤ 3
  v : ∀ v ∈ C.lv, LevOk v
def fresh (v : Lev) : SS := ⟨List.replicate v.ways none, match v.rule with | .second => .sec 0 (List.replicate v.ways false) | .tree => .tree (List.replicate (v.ways - 1) false) | _ => .non⟩
def MSt.empty (C : Cfg) (M : MSt) : MSt := { M with st := fun l _ => fresh (C.lev l), sh := fun _ => [] }
end L2.Mi.Me

set_option Elab.async false
set_option linter.all false
set_option maxRecDepth 100000
set_option maxHeartbeats 1000000
namespace L2.Mi
open PySem
section
variable {S S1 S2 : Store} {σ : En} {m mo mi : ME} {ma : MA}
theorem eVar_at {i : Nat} {d : D} (h : σ[i]? = some (some d)) : eVar i σ S = .ok d S := by
  unfold eVar
  simp only [h]
end
end L2.Mi
set_option Elab.async false
set_option linter.all false
set_option maxRecDepth 100000
set_option maxHeartbeats 1000000
set_option Elab.async false
set_option linter.all false
set_option maxRecDepth 100000
set_option maxHeartbeats 1000000
namespace L2.Mi.Me
open PySem
section
variable {v : Lev} {s : SS} {i : Nat} {C : Cfg} {M : MSt}
theorem MOk.put (K : MOk C M) {l j : Nat} {s : SS} (h : ∀ v, C.lv[l]? = some v → j < v.sets → SOk v s) (ht : ∀ e, some e ∈ s.pl → TgOk C e.t) : MOk C (M.put l j s) := by
  refine ⟨fun a v b h1 h2 => ?_, K.h, K.c, fun a v b e h1 h2 h3 => ?_⟩
  · show SOk v (if a = l ∧ b = j then s else M.st a b)
    split
    · rename_i e
      rw [e.1] at h1
      rw [e.2] at h2
      exact h v h1 h2
    · exact K.s a v b h1 h2
  · have h3 : some e ∈ (if a = l ∧ b = j then s else M.st a b).pl := h3
    split at h3
    · exact ht e h3
    · exact K.t a v b e h1 h2 h3
/-- a deeper level does its part -/
structure Deep (C : Cfg) (c : Nat) (f : Tg → Bool → Int → MSt → MSt) : Prop where
  ok : ∀ t w n M, TgOk C t → MOk C M → MOk C (f t w n M) ∧ (f t w n M).cnt.length ≤ M.cnt.length + c
end
end L2.Mi.Me
namespace L2.Mi.Me
open PySem
def bk (l : Nat) (c : List (D × D)) (e : Option Ent) : List (D × D) := match e with
  | some o => if o.w then noteC c (kBack l) else c
  | none => c
def fPl (l : Nat) (c : List (D × D)) (pl : List (Option Ent)) : List (D × D) := pl.foldl (bk l) c
def fSet (M : MSt) (l : Nat) (c : List (D × D)) (js : List Nat) : List (D × D) := js.foldl (fun c j => fPl l c (M.st l j).pl) c
def fAll (C : Cfg) (M : MSt) (c : List (D × D)) (ls : List Nat) : List (D × D) := ls.foldl (fun c l => fSet M l c (List.range (C.lev l).sets)) c
def flush (C : Cfg) (M : MSt) : MSt := MSt.empty C { M with cnt := fAll C M M.cnt (List.range C.lv.length) }
end L2.Mi.Me

set_option Elab.async false
set_option linter.all false
set_option maxRecDepth 100000
set_option maxHeartbeats 1000000
set_option Elab.async false
set_option linter.all false
set_option maxRecDepth 100000
set_option maxHeartbeats 1000000
namespace L2.Mi.Me
open PySem
structure PEn where
  e : Ent
  u : Int
  b : Int
structure PS where
  pl : List (Option PEn)
  ptr : Nat
  lit : List Bool
  bits : List Bool
structure PSt where
  st : Nat → Nat → PS
  sh : Nat → List Tg
  cnt : List (D × D)
  clock : Int
namespace PSt
def put (P : PSt) (l j : Nat) (s : PS) : PSt := { P with st := fun a b => if a = l ∧ b = j then s else P.st a b }
end PSt
def pFresh (v : Lev) : PS := ⟨List.replicate v.ways none, 0, List.replicate v.ways false, List.replicate 3 false⟩
def PSt.empty (C : Cfg) (P : PSt) : PSt := { P with st := fun l _ => pFresh (C.lev l), sh := fun _ => [] }
structure POk1 (v : Lev) (s : PS) : Prop where
  ln : s.pl.length = v.ways
  pt : s.ptr < v.ways
  lt : s.lit.length = v.ways
  bt : s.bits.length = 3
structure POk (C : Cfg) (P : PSt) : Prop where
  s : ∀ l v j, C.lv[l]? = some v → j < v.sets → POk1 v (P.st l j)
  h : ∀ l v, C.lv[l]? = some v → (P.sh l).length ≤ v.sets * v.ways
  c : CntOk P.cnt
  t : ∀ l v j e, C.lv[l]? = some v → j < v.sets → some e ∈ (P.st l j).pl → TgOk C e.e.t
end L2.Mi.Me

set_option Elab.async false
set_option linter.all false
set_option maxRecDepth 100000
set_option maxHeartbeats 1000000
set_option Elab.async false
set_option linter.all false
set_option maxRecDepth 100000
set_option maxHeartbeats 1000000
namespace L2.Mi
open PySem L2.Mi.Me
def isFree (pl : List (Option PEn)) (i : Nat) : Bool := match pl[i]? with
  | some none => true
  | _ => false
def fl (pl : List (Option PEn)) : List Nat := (List.range pl.length).filter (isFree pl)
end L2.Mi
set_option Elab.async false
set_option linter.all false
set_option maxRecDepth 100000
set_option maxHeartbeats 1000000
set_option Elab.async false
set_option linter.all false
set_option maxRecDepth 100000
set_option maxHeartbeats 1000000
namespace L2.Mi.Me
open PySem
abbrev fm (l : List (Option PEn)) : List PEn := l.filterMap id
def ents (l : List (Option PEn)) : List (Option Ent) := l.map fun x => x.map PEn.e
def pad (n : Nat) (o : List PEn) : List (Option Ent) := (o.map fun e => some e.e) ++ List.replicate (n - o.length) none
structure OrdS (τ : PEn → Int) (s : SS) (p : PS) (o : List PEn) : Prop where
  pm : o.Perm (fm p.pl)
  dec : o.Pairwise fun a b => τ b < τ a
  eq : s.pl = pad p.pl.length o
def SimS (r : Rle) (s : SS) (p : PS) : Prop := match r with
  | .used => ∃ o, OrdS PEn.u s p o
  | .brought => ∃ o, OrdS PEn.b s p o
  | .second => s.pl = ents p.pl ∧ s.ex = .sec p.ptr p.lit ∧ ∀ i : Nat, p.lit[i]? = some true → p.pl[i]? ≠ some none
  | .tree => s.pl = ents p.pl ∧ s.ex = .tree (p.bits.take (p.pl.length - 1))
def Dist (p : PS) : Prop := (fm p.pl).Pairwise fun a b => a.e.t ≠ b.e.t
def Old (k : Int) (p : PS) : Prop := ∀ e ∈ fm p.pl, e.u ≤ k ∧ e.b ≤ k
theorem fm_len (l : List (Option PEn)) : (fm l).length ≤ l.length := List.length_filterMap_le _ _
end L2.Mi.Me

set_option Elab.async false
set_option linter.all false
set_option maxRecDepth 100000
set_option maxHeartbeats 1000000
namespace L2.Mi.Me
open PySem
section
variable {τ : PEn → Int} {s : SS} {p : PS} {o : List PEn} {v : Lev} {t : Tg}
theorem OrdS.len (O : OrdS τ s p o) : o.length ≤ p.pl.length := by rw [O.pm.length_eq]; exact fm_len _
end
end L2.Mi.Me

set_option Elab.async false
set_option linter.all false
set_option maxRecDepth 100000
set_option maxHeartbeats 1000000
set_option Elab.async false
set_option linter.all false
set_option maxRecDepth 100000
set_option maxHeartbeats 1000000
namespace L2.Mi.Me
open PySem
structure Sim (C : Cfg) (M : MSt) (P : PSt) : Prop where
  s : ∀ l j, l < C.lv.length → j < (C.lev l).sets → SimS (C.lev l).rule (M.st l j) (P.st l j)
  d : ∀ l j, l < C.lv.length → j < (C.lev l).sets → Dist (P.st l j)
  o : ∀ l j, l < C.lv.length → j < (C.lev l).sets → Old P.clock (P.st l j)
  h : M.sh = P.sh
  c : M.cnt = P.cnt
theorem Old.mono {a b : Int} {p : PS} (h : Old a p) (hab : a ≤ b) : Old b p := fun e he => by
  have := h e he
  omega
section
variable {C : Cfg} {M : MSt} {P : PSt} {l j : Nat} {t : Tg} {w : Bool} {n : Int} {f : Tg → Bool → Int → MSt → MSt} {g : Tg → Bool → Int → PSt → PSt}
theorem Sim.put (Z : Sim C M P) {s : SS} {p : PS} (h : SimS (C.lev l).rule s p) (d : Dist p) (o : Old P.clock p) : Sim C (M.put l j s) (P.put l j p) := by
  refine ⟨fun a b h1 h2 => ?_, fun a b h1 h2 => ?_, fun a b h1 h2 => ?_, Z.h, Z.c⟩
  · show SimS _ (if a = l ∧ b = j then s else M.st a b) (if a = l ∧ b = j then p else P.st a b)
    split
    · rename_i e
      rw [e.1]
      exact h
    · exact Z.s a b h1 h2
  · show Dist (if a = l ∧ b = j then p else P.st a b)
    split
    · exact d
    · exact Z.d a b h1 h2
  · show Old P.clock (if a = l ∧ b = j then p else P.st a b)
    split
    · exact o
    · exact Z.o a b h1 h2
/-- how a deeper level runs in both -/
structure SimD (C : Cfg) (l : Nat) (f : Tg → Bool → Int → MSt → MSt) (g : Tg → Bool → Int → PSt → PSt) : Prop where
  sim : ∀ t w n M P, TgOk C t → POk C P → Sim C M P → Sim C (f t w n M) (g t w n P)
  pok : ∀ t w n P, TgOk C t → POk C P → POk C (g t w n P)
  fM : ∀ t w n M a j, a < l → (f t w n M).st a j = M.st a j
  fP : ∀ t w n P a j, a < l → (g t w n P).st a j = P.st a j
  ck : ∀ t w n P, P.clock ≤ (g t w n P).clock
  pl : ∀ t w n M, (f t w n M).played = M.played
end
end L2.Mi.Me

set_option Elab.async false
set_option linter.all false
set_option maxRecDepth 100000
set_option maxHeartbeats 1000000
namespace L2.Mi.Me
open PySem
def it (k : D) : Nat → List (D × D) → List (D × D)
  | 0, c => c
  | n + 1, c => it k n (noteC c k)
end L2.Mi.Me

set_option Elab.async false
set_option linter.all false
set_option maxRecDepth 100000
set_option maxHeartbeats 1000000
set_option Elab.async false
set_option linter.all false
set_option maxRecDepth 100000
set_option maxHeartbeats 1000000
namespace L2.Mi
open PySem
mutual
/-- None, bools, numbers from 0 to 15, tuples of these, three deep -/
def smD : Nat → D → Bool
  | _, .non => true
  | _, .bl _ => true
  | _, .int i => decide (0 ≤ i) && decide (i < 16)
  | n + 1, .tup ds => smDs n ds
  | _, _ => false
def smDs : Nat → List D → Bool
  | _, [] => true
  | n, d :: ds => smD n d && smDs n ds
end
mutual
theorem smD_ok : ∀ (n : Nat) (d : D), smD n d = true → okD n d = true ∧ intOk d = true
  | n, .non, _ => ⟨by cases n <;> rfl, rfl⟩
  | n, .bl b, _ => ⟨by cases n <;> rfl, rfl⟩
  | n, .int i, h => by
    have h : (decide (0 ≤ i) && decide (i < 16)) = true := by cases n <;> exact h
    rw [Bool.and_eq_true] at h
    have h1 := of_decide_eq_true h.1
    have h2 := of_decide_eq_true h.2
    refine ⟨by cases n <;> rfl, ?_⟩
    obtain ⟨k, rfl⟩ := Int.eq_ofNat_of_zero_le h1
    unfold intOk
    refine decide_eq_true ?_
    have hk : k < 16 := by omega
    match k, hk with
    | 0, _ => decide
    | 1, _ => decide
    | 2, _ => decide
    | 3, _ => decide
    | 4, _ => decide
    | 5, _ => decide
    | 6, _ => decide
    | 7, _ => decide
    | 8, _ => decide
    | 9, _ => decide
    | 10, _ => decide
    | 11, _ => decide
    | 12, _ => decide
    | 13, _ => decide
    | 14, _ => decide
    | 15, _ => decide
  | 0, .tup ds, h => by cases h
  | n + 1, .tup ds, h => by
    have z := smDs_ok n ds h
    exact ⟨z.1, z.2⟩
  | n, .str _, h => by cases n <;> cases h
  | n, .ref _, h => by cases n <;> cases h
  | n, .ty _, h => by cases n <;> cases h
  | n, .lv _, h => by cases n <;> cases h
  | n, .dv _ _, h => by cases n <;> cases h
  | n, .ex _ _ _, h => by cases n <;> cases h
  | n, .cx _, h => by cases n <;> cases h
  | n, .lm _, h => by cases n <;> cases h
  | n, .kt _, h => by cases n <;> cases h
  | n, .cl _, h => by cases n <;> cases h
  | n, .fl _, h => by cases n <;> cases h
  | n, .fn _, h => by cases n <;> cases h
theorem smDs_ok : ∀ (n : Nat) (ds : List D), smDs n ds = true → okDs n ds = true ∧ intOks ds = true
  | n, [], _ => ⟨by unfold okDs; rfl, by unfold intOks; rfl⟩
  | n, d :: ds, h => by
    unfold smDs at h
    rw [Bool.and_eq_true] at h
    have z1 := smD_ok n d h.1
    have z2 := smDs_ok n ds h.2
    unfold okDs intOks
    rw [z1.1, z1.2, z2.1, z2.2]
    exact ⟨rfl, rfl⟩
end
theorem sok_app {a b : Str} (ha : PyData.strOk a = true) (hb : PyData.strOk b = true) : PyData.strOk (a ++ b) = true := by
  show (a.cps ++ b.cps).all _ = true
  rw [Array.all_append, Bool.and_eq_true]
  exact ⟨ha, hb⟩
theorem sok_join : ∀ (ts : List Str), (∀ t ∈ ts, PyData.strOk t = true) → PyData.strOk (Str.join ", " ts) = true
  | [], _ => by kernel_rfl
  | [t], h => h t (by simp)
  | t :: u :: ts, h => sok_app (sok_app (h t (by simp)) (b := ", ") (by kernel_rfl)) (sok_join (u :: ts) fun v hv => h v (List.mem_cons_of_mem _ hv))
theorem sok_tup {ts : List Str} (h : ∀ t ∈ ts, PyData.strOk t = true) : PyData.strOk (tupleText ts) = true := by
  have hend : PyData.strOk ((if ts.length == 1 then ",)" else ")" : String) : Str) = true := by
    by_cases hk : (ts.length == 1) = true
    · rw [if_pos hk]; kernel_rfl
    · rw [if_neg hk]; kernel_rfl
  exact sok_app (sok_app (a := "(") (by kernel_rfl) (sok_join ts h)) hend
mutual
theorem sok_sm : ∀ (n : Nat) (d : D), smD n d = true → PyData.strOk (toP d).shown = true
  | n, .non, _ => by kernel_rfl
  | n, .bl b, _ => by cases b <;> kernel_rfl
  | n, .int i, h => by
    have h : (decide (0 ≤ i) && decide (i < 16)) = true := by cases n <;> exact h
    rw [Bool.and_eq_true] at h
    have h1 := of_decide_eq_true h.1
    have h2 := of_decide_eq_true h.2
    obtain ⟨k, rfl⟩ := Int.eq_ofNat_of_zero_le h1
    have hk : k < 16 := by omega
    match k, hk with
    | 0, _ => kernel_rfl
    | 1, _ => kernel_rfl
    | 2, _ => kernel_rfl
    | 3, _ => kernel_rfl
    | 4, _ => kernel_rfl
    | 5, _ => kernel_rfl
    | 6, _ => kernel_rfl
    | 7, _ => kernel_rfl
    | 8, _ => kernel_rfl
    | 9, _ => kernel_rfl
    | 10, _ => kernel_rfl
    | 11, _ => kernel_rfl
    | 12, _ => kernel_rfl
    | 13, _ => kernel_rfl
    | 14, _ => kernel_rfl
    | 15, _ => kernel_rfl
  | 0, .tup ds, h => by cases h
  | n + 1, .tup ds, h => by
    have z := soks_sm n ds h
    unfold toP
    simp only [PyData.shown]
    exact sok_tup z
  | n, .str _, h => by cases n <;> cases h
  | n, .ref _, h => by cases n <;> cases h
  | n, .ty _, h => by cases n <;> cases h
  | n, .lv _, h => by cases n <;> cases h
  | n, .dv _ _, h => by cases n <;> cases h
  | n, .ex _ _ _, h => by cases n <;> cases h
  | n, .cx _, h => by cases n <;> cases h
  | n, .lm _, h => by cases n <;> cases h
  | n, .kt _, h => by cases n <;> cases h
  | n, .cl _, h => by cases n <;> cases h
  | n, .fl _, h => by cases n <;> cases h
  | n, .fn _, h => by cases n <;> cases h
theorem soks_sm : ∀ (n : Nat) (ds : List D), smDs n ds = true → ∀ t ∈ PyData.shownAll (toPs ds), PyData.strOk t = true
  | n, [], _, t, ht => by unfold toPs at ht; simp [PyData.shownAll] at ht
  | n, d :: ds, h, t, ht => by
    unfold smDs at h
    rw [Bool.and_eq_true] at h
    unfold toPs at ht
    simp only [PyData.shownAll, List.mem_cons] at ht
    rcases ht with rfl | ht
    · exact sok_sm n d h.1
    · exact soks_sm n ds h.2 t ht
end
end L2.Mi
namespace L2.Mi.Me
open PySem
def MB (B : Ent → Prop) (M : MSt) : Prop := ∀ l j e, some e ∈ (M.st l j).pl → B e
section
variable {C : Cfg} {M : MSt} {l j : Nat} {t : Tg} {w : Bool} {n : Int} {f : Tg → Bool → Int → MSt → MSt} {L : Tg → Prop} {N : Int → Prop}
theorem MB.put {B : Ent → Prop} (h : MB B M) {s : SS} (hs : ∀ e, some e ∈ s.pl → B e) : MB B (M.put l j s) := by
  intro a b e he
  have he : some e ∈ (if a = l ∧ b = j then s else M.st a b).pl := he
  split at he
  · exact hs e he
  · exact h a b e he
end
end L2.Mi.Me

set_option Elab.async false
set_option linter.all false
set_option maxRecDepth 100000
set_option maxHeartbeats 1000000
set_option Elab.async false
set_option linter.all false
set_option maxRecDepth 100000
set_option maxHeartbeats 1000000
set_option Elab.async false
set_option linter.all false
set_option maxRecDepth 100000
set_option maxHeartbeats 1000000
namespace L2.Mi.Me
open PySem L2.Mi
def fe (l : List (Option Ent)) : List Ent := l.filterMap id
end L2.Mi.Me
namespace L2.Mi
open PySem L2.Mi.Me
theorem sok_from : ∀ (ts : List Str) (k : Nat) (acc : Str), PyData.strOk acc = true → (∀ t ∈ ts, PyData.strOk t = true) → PyData.strOk (textFrom k acc ts) = true
  | [], k, acc, ha, _ => ha
  | t :: ts, k, acc, ha, h => by
    have hsep : PyData.strOk ((if k > 0 then ", " else "" : String) : Str) = true := by
      by_cases hk : k > 0
      · rw [if_pos hk]; kernel_rfl
      · rw [if_neg hk]; kernel_rfl
    exact sok_from ts (k + 1) _ (sok_app (sok_app ha hsep) (h t (by simp))) fun u hu => h u (by simp [hu])
theorem sok_list {ts : List Str} (h : ∀ t ∈ ts, PyData.strOk t = true) : PyData.strOk (listText ts) = true := sok_app (sok_from ts 0 "[" (by kernel_rfl) h) (b := "]") (by kernel_rfl)
theorem repr_lv {ds : List D} (n : Nat) (h : smDs n ds = true) (hn : n ≤ 6) (hz : rszs ds + 2 ≤ 10000000) : ∃ x, Txt x ∧ ∀ S, reprF 8 [.lv ds] S = .ok (.str x) S := by
  have z := smDs_ok n ds h
  refine ⟨rtx (.lv ds), ?_, fun S => repr_ok (n + 1) z.1 (by omega) z.2 hz⟩
  have : PyData.strOk (toP (.lv ds)).shown = true := by
    unfold toP
    simp only [PyData.shown]
    exact sok_list (soks_sm n ds h)
  unfold PyData.strOk at this
  rw [← Array.all_toList, List.all_eq_true] at this
  intro c hc
  exact of_decide_eq_true (this c hc)
end L2.Mi

set_option Elab.async false
set_option linter.all false
set_option maxRecDepth 100000
set_option maxHeartbeats 2000000
set_option Elab.async false
set_option linter.all false
set_option maxRecDepth 100000
set_option maxHeartbeats 2000000
namespace L2.Mi
open PySem PySem.Spec PyProof.Rows
/-- a kept exception's class: made, its fields read -/
structure XA (K : Fg) (C fI : Addr) : Prop where
  o : OexA K C
  x : XfC K C
  i : PySem.W.findIn K (.ref C) "__init__" = some (some (.ref fI))
  t : PySem.W.typeIn K (.ref fI) = some (.type "function")
end L2.Mi

set_option Elab.async false
set_option linter.all false
set_option maxRecDepth 100000
set_option maxHeartbeats 2000000
set_option Elab.async false
set_option linter.all false
set_option maxRecDepth 100000
set_option maxHeartbeats 2000000
set_option Elab.async false
set_option linter.all false
set_option maxRecDepth 100000
set_option maxHeartbeats 2000000
namespace L2.Mi
open PySem PySem.Spec PyProof.Rows
/-- the class C's __init__ sets f, whatever C's base -/
structure XInitG (P : Program) (w : World) (K : Fg) (mg : Str → Option Value) (base : Heap) (C f s v : Str) : Prop where
  ex : ∃ fd, FnOk P w K mg base (L2.CX P w) 1 (He.ma K (He.ga K C) "__init__") fd [s, v] (spXG K f) ∧ Binds K fd [s, v] [] ∧ KBn K fd [s, v] 1 [v] (fun us ws => us ++ ws) (fun vs zs => vs ++ zs)
end L2.Mi

set_option Elab.async false
set_option linter.all false
set_option maxRecDepth 100000
set_option maxHeartbeats 2000000
namespace L2.Mi
open PySem PySem.Spec PyProof.Rows
/-- a pattern's parts: a constant, a name's slot -/
abbrev Pt := List (D ⊕ Nat)
/-- no match, or what is bound -/
def ptGo (f : D → D → Store → Res D) : Pt → List D → Store → Res (Option (List (Nat × D)))
  | [], [], S => .ok (some []) S
  | .inl c :: ps, d :: ds, S => (match f d c S with
    | .ok (.bl true) S1 => ptGo f ps ds S1
    | .ok (.bl false) S1 => .ok none S1
    | _ => .bad)
  | .inr i :: ps, d :: ds, S => (match ptGo f ps ds S with
    | .ok (some bs) S1 => .ok (some ((i, d) :: bs)) S1
    | .ok none S1 => .ok none S1
    | _ => .bad)
  | _, _, _ => .bad
def setBs : List (Nat × D) → En → En
  | [], σ => σ
  | (i, d) :: r, σ => setBs r (σ.set i (some d))
def matP (f : D → D → Store → Res D) (d : D) : List (Pt × MS) → MS
  | [] => sNext
  | (p, k) :: r => fun σ S => match tupD d with
    | some ds => if ds.length = p.length then (match ptGo f p ds S with
        | .ok (some bs) S1 => k (setBs bs σ) S1
        | .ok none S1 => matP f d r σ S1
        | _ => .bad) else matP f d r σ S
    | none => .bad
def sMatchP (f : D → D → Store → Res D) (m : ME) (cs : List (Pt × MS)) : MS := fun σ S => match m σ S with
  | .ok d S1 => matP f d cs σ S1
  | .exc x S1 => .exc x σ S1
  | .bad => .bad
/-- what is bound, by names -/
inductive BRel (G : Gx) (X : Cx) (ρ : Wd) (H : Hp) : List (Nat × D) → List (Str × Value) → Prop
  | nil : BRel G X ρ H [] []
  | cons {i : Nat} {d : D} {x : Str} {v : V} {u : Value} {bs : List (Nat × D)} {ns : List (Str × Value)} : X.N[i]? = some x → Loc X.env.scope x → (X.fn x = true ∨ X.env.scope.names.lookup x = some .local) → RelV v u → RV G ρ H d v → BRel G X ρ H bs ns → BRel G X ρ H ((i, d) :: bs) ((x, u) :: ns)
def BRelO (G : Gx) (X : Cx) (ρ : Wd) (H : Hp) : Option (List (Nat × D)) → Option (List (Str × Value)) → Prop
  | none, none => True
  | some bs, some ns => BRel G X ρ H bs ns
  | _, _ => False
structure SPt (G : Gx) (X : Cx) (W : WX) (f : D → D → Store → Res D) (ps : List Pattern) (p : Pt) : Prop where
  len : ps.length = p.length
  run : ∀ (pins : List (Addr × Obj)) (s : Shared) (σ : St) (H : Hp) (us : List Value) (vs : List V) (ρ : Wd) (S S1 : Store) (ds : List D) (r : Option (List (Nat × D))) (Q : Option (List (Str × Value)) → Shared → Prop), Inv X pins σ H s → Vals vs us → Rl G ρ S H → RVs G ρ H ds vs → ptGo f p ds S = .ok r S1 →
    (∀ ρ1 H1 s1 ns, Inv X pins σ H1 s1 → Le G ρ H ρ1 H1 → Rl G ρ1 S1 H1 → BRelO G X ρ1 H1 r ns → Q ns s1) → wpAny (model X.prog X.w) X.A (matchEach ps X.env us) Q X.xe s
section
variable {G : Gx} {X : Cx} {W : WX} {f : D → D → Store → Res D} {ps : List Pattern} {p : Pt} {pos : Pos} {value : Expr} {c : D}
theorem spt_nil : SPt G X W f [] [] := ⟨rfl, fun pins s σ H us vs ρ S S1 ds r Q I rx rl rv e h => by
  cases rv with
  | nil =>
    cases rx
    cases e
    exact wpAny_matchEach_nil (h ρ H s (some []) I Le.refl rl .nil)
  | cons _ _ => cases e⟩
theorem spt_cap {i : Nat} {x : Str} (hi : X.N[i]? = some x) (hx : Loc X.env.scope x) (hf : X.fn x = true ∨ X.env.scope.names.lookup x = some .local) (hr : SPt G X W f ps p) : SPt G X W f (.MatchAs none (some x) pos :: ps) (.inr i :: p) := ⟨by simp [hr.len], fun pins s σ H us vs ρ S S1 ds r Q I rx rl rv e h => by
  cases rv with
  | nil => cases e
  | @cons d ds v vs r1 r2 =>
    cases rx with
    | @cons _ u _ us k1 k2 =>
      unfold ptGo at e
      refine wpAny_matchEach_cons (wpAny_matchPattern_Capture ?_)
      show wpAny _ _ _ _ _ _
      cases q : ptGo f p ds S with
      | bad => rw [q] at e; cases e
      | exc _ _ => rw [q] at e; cases e
      | ok r2' S2 =>
        rw [q] at e
        refine hr.run pins s σ H us vs ρ S S2 ds r2' _ I k2 rl r2 q fun ρ1 H1 s1 ns I1 l1 rl1 b => ?_
        cases r2' with
        | none =>
          cases e
          cases ns with
          | none => exact h ρ1 H1 s1 none I1 l1 rl1 trivial
          | some _ => exact b.elim
        | some bs =>
          cases e
          cases ns with
          | none => exact b.elim
          | some ns => exact h ρ1 H1 s1 (some ((x, u) :: ns)) I1 l1 rl1 (.cons hi hx hf k1 (r1.mono l1) b)⟩
theorem spt_val (ho : OpS G X W (compareOp .Eq) f) (hv : SE G X W value (eC c)) (hr : SPt G X W f ps p) : SPt G X W f (.MatchValue value pos :: ps) (.inl c :: p) := ⟨by simp [hr.len], fun pins s σ H us vs ρ S S1 ds r Q I rx rl rv e h => by
  cases rv with
  | nil => cases e
  | @cons d ds v vs r1 r2 =>
    cases rx with
    | @cons _ u _ us k1 k2 =>
      unfold ptGo at e
      refine wpAny_matchEach_cons (wpAny_matchPattern_Value ?_)
      have re : RE G ρ H (List.replicate σ.length none) σ := re_repl rfl
      refine thn (hv.run pins s σ H (fun w H1 => ∃ ρ1, Le G ρ H ρ1 H1 ∧ Rl G ρ1 S H1 ∧ RV G ρ1 H1 c w) I ⟨ρ, _, S, rl, re, fun ρ1 H1 w l1 rl1 rv1 => ⟨ρ1, l1, rl1, rv1⟩⟩) ?_
      rintro z s1 ⟨w, H1, I1, rw1, ρ1, l1, rl1, rv1⟩
      cases q : f d c S with
      | bad => rw [q] at e; cases e
      | exc _ _ => rw [q] at e; cases e
      | ok y S2 =>
        rw [q] at e
        cases y with
        | bl b =>
          refine thn (ho pins s1 σ H1 v w u z (fun t H2 => ∃ ρ2, Le G ρ1 H1 ρ2 H2 ∧ Rl G ρ2 S2 H2 ∧ t = .bl b) ρ1 S d c I1 k1 rw1 rl1 (r1.mono l1) rv1 ?_) ?_
          · rw [q]
            intro ρ2 H2 t l2 rl2 rt
            cases rt
            exact ⟨ρ2, l2, rl2, rfl⟩
          · rintro t s2 ⟨t', H2, I2, rt, ρ2, l2, rl2, rfl⟩
            obtain rfl : t = Value.bool b := rt
            refine wpAny_truthy_bool ?_
            cases b with
            | true =>
              refine hr.run pins s2 σ H2 us vs ρ2 S2 S1 ds r _ I2 k2 rl2 ((r2.mono l1).mono l2) e fun ρ3 H3 s3 ns I3 l3 rl3 b => ?_
              have z := h ρ3 H3 s3 ns I3 ((l1.trans l2).trans l3) rl3 b
              cases ns <;> exact z
            | false =>
              cases e
              exact h ρ2 H2 s2 none I2 (l1.trans l2) rl2 trivial
        | _ => cases e⟩
structure SPCs (G : Gx) (X : Cx) (W : WX) (f : D → D → Store → Res D) (cases : List MatchCase) (cs : List (Pt × MS)) : Prop where
  run : ∀ (first : Bool) (pins : List (Addr × Obj)) (s : Shared) (σ : St) (H : Hp) (v : Value) (x : V) (Dn : Ends) (ρ : Wd) (σs : En) (S : Store) (d : D), Inv X pins σ H s → RelV x v → Rl G ρ S H → RE G ρ H σs σ → RV G ρ H d x →
    PostS G ρ H (matP f d cs σs S) Dn W → wpAny (model X.prog X.w) X.A (matchCases cases X.env v first) (SP X pins Dn) X.xe s
theorem spcs_nil : SPCs G X W f [] [] := ⟨fun first pins s σ H v x Dn ρ σs S d I rx rl re rv p =>
  wpAny_matchCases_nil ⟨σ, H, I, p ρ H σ Le.refl rl re⟩⟩
/-- the names are set, then the rest -/
theorem set_all {pins : List (Addr × Obj)} {Z : Shared → Prop} (hN : X.N.Nodup) : ∀ {bs : List (Nat × D)} {ns : List (Str × Value)} {s : Shared} {σ : St} {H : Hp} {ρ : Wd} {σs : En}, Inv X pins σ H s → RE G ρ H σs σ → BRel G X ρ H bs ns →
    (∀ s1 σ1, Inv X pins σ1 H s1 → RE G ρ H (setBs bs σs) σ1 → Z s1) → wpAny (model X.prog X.w) X.A (assignInOrder (ns.map fun (n, _) => bindName X.env n) (ns.map (·.2))) (fun _ s2 => Z s2) X.xe s
  | _, _, s, σ, H, ρ, σs, I, re, .nil, h => wpAny_assignInOrder_none (h s σ I re)
  | (i, d) :: bs, (x, u) :: ns, s, σ, H, ρ, σs, I, re, .cons (v := v) hi hx hf ru rv b, h => by
    refine wpAny_assignInOrder_more (wpAny_bindName (store_ok I hN hi hx ru (fun s1 I1 => ?_) hf))
    exact set_all hN I1 (re.set i rv) b h
theorem spcs_cons {body : List Stmt} {k : MS} {cases : List MatchCase} {cs : List (Pt × MS)} (cc : Cc G X W) (hp : SPt G X W f ps p) (h : SSs G X W body k) (hr : SPCs G X W f cases cs) (hl : p.length ≤ 1000)
    (hstar : ps.findIdx? (·.isStar) = none := by rfl) (hwild : (ps.all fun p => p.isWildcard || (p.isStar && p.names.isEmpty)) = false := by rfl) :
    SPCs G X W f (⟨.MatchSequence ps pos, none, body⟩ :: cases) ((p, k) :: cs) := ⟨fun first pins s σ H v x Dn ρ σs S d I rx rl re rv q => by
  unfold matP at q
  cases hd : tupD d with
  | none => simp only [hd] at q; exact q.elim
  | some ds =>
    simp only [hd] at q
    obtain ⟨a, xs, rfl, sq, rs⟩ := tupD_rel rv hd
    obtain rfl : v = Value.ref a := rx
    obtain ⟨its, r2, ht, hz⟩ := I.tuple (by rw [cc.k]; exact sq)
    have hits : its.length = ds.length := by rw [← r2.length, ← rs.length]
    have hz2 : ((its.toArray.size : Nat) : Int) < 2 ^ 63 := by
      have : sizeLine = 16777216 := sizeLine_eq
      have := r2.length
      simp only [List.size_toArray]
      omega
    by_cases hn : ds.length = p.length
    · rw [if_pos hn] at q
      have hn2 : its.toArray.size = ps.length := by simp only [List.size_toArray]; rw [hits, hn, hp.len]
      refine wpAny_matchCases_cons (matchSeq_tuple_hit ht hz2 hn2 ?_ hstar hwild)
      rw [← hn2]
      have I1 : Inv X pins σ H { s with toks := s.toks + 1 + 1 } := I.tok _
      refine unpackItems_tuple (I1.ok.hd cc.calm) (show IsTup _ a its.toArray from ht) fun h' he => ?_
      have I2 : Inv X pins σ H { s with heap := h', toks := s.toks + 1 + 1 } := I1.kept (t' := s.toks + 1 + 1) fun b o e => he b o (Nat.ne_of_lt (Heap.lt_size e)) e
      cases e : ptGo f p ds S with
      | bad => rw [e] at q; exact q.elim
      | exc _ _ => rw [e] at q; exact q.elim
      | ok r S1 =>
        rw [e] at q
        refine hp.run pins _ σ H _ xs ρ S S1 ds r _ I2 (by simpa using r2) rl rs e fun ρ1 H1 s1 ns I3 l1 rl1 b => ?_
        cases r with
        | none =>
          cases ns with
          | none => exact hr.run false pins s1 σ H1 _ (.ref a) Dn ρ1 σs S1 d I3 rfl rl1 (re.mono l1) (rv.mono l1) (PostS.le q l1)
          | some _ => exact b.elim
        | some bs =>
          cases ns with
          | none => exact b.elim
          | some ns =>
            refine set_all (Z := fun s2 => wpAny (model X.prog X.w) X.A (execs body X.env) (SP X pins Dn) X.xe s2) cc.nd I3 (re.mono l1) b fun s2 σ2 I4 re2 => ?_
            exact h.run pins s2 σ2 H1 Dn I4 ⟨ρ1, _, S1, rl1, re2, PostS.le (r := k (setBs bs σs) S1) q l1⟩
    · rw [if_neg hn] at q
      have hn2 : its.toArray.size ≠ ps.length := by simp only [List.size_toArray]; rw [hits, hp.len]; exact hn
      refine wpAny_matchCases_cons (matchSeq_tuple_miss ht hz2 hn2 ?_ hstar hwild)
      exact hr.run false pins _ σ H _ (.ref a) Dn ρ σs S d (I.tok _) rfl rl re rv q⟩
theorem ss_matchP {subject : Expr} {m : ME} {cases : List MatchCase} {cs : List (Pt × MS)} (he : SE G X W subject m) (hc : SPCs G X W f cases cs) : SS G X W (.Match subject cases pos) (sMatchP f m cs) := ⟨fun pins s σ H Dn I ⟨ρ, σs, S, rl, re, p⟩ => by
  refine wpAny_Match ?_
  unfold sMatchP at p
  refine thn (he.run pins s σ H (fun x H1 => ∃ ρ1 S1 d, Le G ρ H ρ1 H1 ∧ Rl G ρ1 S1 H1 ∧ RV G ρ1 H1 d x ∧ PostS G ρ1 H1 (matP f d cs σs S1) Dn W) I ⟨ρ, σs, S, rl, re, do_go re p fun ρ1 H1 S1 d v l1 rl1 rv1 p1 => ⟨ρ1, S1, d, l1, rl1, rv1, p1⟩⟩) ?_
  rintro v s1 ⟨x, H1, I1, rx, ρ1, S1, d, l1, rl1, rv1, p1⟩
  exact hc.run true pins s1 σ H1 v x Dn ρ1 σs S1 d I1 rx rl1 (re.mono l1) rv1 p1⟩
end
end L2.Mi

set_option Elab.async false
set_option linter.all false
set_option maxRecDepth 100000
set_option maxHeartbeats 2000000
namespace L2.Mi
open PySem PySem.Spec PyProof.Rows
/-- ~x -/
def invF (ds : Disp) : D → Store → Res D := fun x S => match x with
  | .ref i => (match S.get i with
    | some (.ins c _) => (match ds c with | some g => g [.ref i] S | none => .bad)
    | _ => .bad)
  | _ => .bad
def eKidx (ds : List (List Nat)) (m : ME) : ME := fun σ S => (m σ S).bind fun y S1 => match y with
  | .str z => (match ds.findIdx? (fun w => w == z) with | some j => .ok (.int (j : Int)) S1 | none => .bad)
  | _ => .bad
section
variable {G : Gx} {X : Cx} {W : WX}
theorem uns_inv {ds : Disp} (hd : ∀ c g, ds c = some g → UnClsS G X W "__invert__" c g) : UnS G X W (unaryOp .Invert) (invF ds) := by
  intro pins s σ H x v Q ρ S d I rx rl r1 p
  cases r1 with
  | @ref i a hi =>
    obtain rfl : v = Value.ref a := rx
    unfold invF at p
    cases q : S.get i with
    | none => simp only [q] at p; exact p.elim
    | some ob =>
      cases ob with
      | ins c fs =>
        simp only [q] at p
        cases q2 : ds c with
        | none => simp only [q2] at p; exact p.elim
        | some g =>
          simp only [q2] at p
          obtain ⟨C, f, hC, hs, hf, hfn⟩ := (hd c g q2).ex
          obtain ⟨C', dx, us, hC', hH⟩ := inst_at rl hi q
          rw [hC] at hC'
          cases hC'
          obtain ⟨mA, O, _⟩ := ins_get I.hok hH
          obtain ⟨od, J, _⟩ := O.look
          obtain ⟨mF, hF⟩ := I.fr
          exact PySem.W.ksp_inv hF I.ok.mod.kin J hs hf (hfn pins s σ H [.ref a] [.ref a] Q ρ S [.ref i] I (.cons rfl .nil) rl (.cons (.ref hi) .nil) p)
      | _ => simp only [q] at p; exact p.elim
  | _ => exact p.elim
theorem txts_rel {ρ : Wd} {H : Hp} : ∀ {ds : List (List Nat)} {xs : List V}, RVs G ρ H (ds.map D.str) xs → xs = (ds.map fun l => (⟨l.toArray⟩ : Str)).map V.str
  | [], _, .nil => rfl
  | l :: ds, _, .cons r t => by
    rw [txts_rel t]
    cases r
    rfl
end
section
variable {L : Lw} {K : Fg} {c : L.Says K} {X : Cx} {W : WX} {x : Str} {e : Expr} {m : ME} {p apos pos : Pos}
theorem se_kidx {ds : List (List Nat)} (i i2 : Nat) (cc : Cc (L.gx K c) X W) (NS : Ns K X.mg) (h : L.fa[i]? = some (.con x (.kt (ds.map D.str)))) (h2 : L.fa[i2]? = some (.raw (tupB x))) (hg : Gl X x) (he : SE (L.gx K c) X W e m)
    (hdb : (x == ("__debug__" : Str)) = false := by decide)
    (hbase : attributeBase (.Name x p) "index" X.env (eval (.Name x p) X.env) = eval (.Name x p) X.env := by rfl)
    (hfew : ((backTo pos (starEach [e] X.env)).all (fun x => !x.1) && (backToKw pos (keywordEach [] X.env)).all (fun x => x.1.isSome)
      && decide ([e].length + ([] : List Keyword).length + (if ([] : List Keyword).isEmpty then 0 else 1) < 30)) = true := by rfl)
    (hline : (apos.endLine == pos.line) = true := by rfl) (hs : starEach [e] X.env = (false, eval e X.env) :: starEach [] X.env := by rfl) (hplain : (backTo pos (starEach [] X.env)).any (·.1) = false := by rfl) :
    SE (L.gx K c) X W (.Call (.Attribute (.Name x p) "index" apos) [e] [] pos) (eKidx ds m) := by
  have hk : X.K = K := cc.k
  have hq : tupB x K = true := c.fact i2 h2
  unfold tupB at hq
  split at hq
  · rename_i a ea
    split at hq
    · rename_i t dt sl hl
      have ht := of_decide_eq_true hq
      subst ht
      obtain ⟨u, v, h1, h2, h3⟩ := NS.con c i h
      have h4 : X.mg x = some (.ref a) := by
        obtain ⟨hp, kin, ns⟩ := NS
        exact PySem.W.mg_of kin ns ea
      rw [h1] at h4
      cases h4
      have hv : v = .ref a := by
        have z := h3 ⟨[], []⟩ (fun _ => none)
        cases z with
        | kt _ _ => cases h2; rfl
      subst hv
      refine se_of (pe_bm PySem.F.plainAttrs_tuple PySem.F.slot_tuple_index PySem.F.type_tuple_index mt_tup_index (pe_glob hg h1 (v := .ref a) rfl hdb) (sa_cons he sa_nil hs) hbase hfew hline hs hplain) fun σ H Q ρ σs S rl re q => ?_
      refine ⟨.inr (.inl ⟨rfl, _, by rw [hk]; exact hl, rfl, rfl⟩), ρ, σs, S, rl, re, ?_⟩
      unfold eKidx at q
      unfold aList aList
      cases hm1 : m σs S with
      | bad => rw [hm1] at q; exact q.elim
      | exc y S1 => rw [hm1] at q; exact q
      | ok d S1 =>
        rw [hm1] at q
        intro ρ1 H1 ys l1 rl1 rv1
        obtain ⟨w, rfl, rv⟩ := rvs1 rv1
        cases rv with
        | str z =>
          have q1 : Post (L.gx K c) ρ H (match ds.findIdx? (fun w => w == z) with | some j => .ok (.int (j : Int)) S1 | none => .bad) Q (EW W σ) := q
          cases e1 : ds.findIdx? (fun w => w == z) with
          | none => rw [e1] at q1; exact q1.elim
          | some j =>
            rw [e1] at q1
            obtain ⟨hj, hz, hno⟩ := List.findIdx?_eq_some_iff_getElem.mp e1
            have z3 := h3 ρ1 H1
            cases z3 with
            | kt sq rs =>
              have ex := txts_rel rs
              subst ex
              refine ⟨a, ds.map fun l => (⟨l.toArray⟩ : Str), ⟨z.toArray⟩, j, rfl, rfl, by rw [hk]; exact sqT_written sq, ?_, fun k hk2 => ?_, q1 ρ1 H1 _ l1 rl1 (.int _)⟩
              · rw [List.getElem?_map, List.getElem?_eq_getElem hj, ← eq_of_beq hz]
                rfl
              · have hk3 : k < ds.length := by omega
                rw [List.getElem?_map, List.getElem?_eq_getElem hk3]
                intro e2
                have := hno k hk2
                have e3 : ds[k].toArray = z.toArray := by simpa using e2
                have e4 : ds[k] = z := by simpa using e3
                rw [e4] at this
                simp at this
        | _ => exact q.elim
    · cases hq
  · cases hq
end
end L2.Mi

set_option Elab.async false
set_option linter.all false
set_option maxRecDepth 100000
set_option maxHeartbeats 2000000
namespace L2.Mi
open PySem PySem.Spec PyProof.Rows
theorem push_update (h : Heap) (o : Obj) (f : Obj → Obj) : (h.push o).update h.objs.size f = h.push (f o) := by
  obtain ⟨objs, l⟩ := h
  show Heap.mk ((objs.push o).modify objs.size f) l = Heap.mk (objs.push (f o)) l
  congr 1
  apply Array.ext
  · simp
  · intro i h1 h2
    rw [Array.getElem_modify]
    by_cases e : i = objs.size
    · subst e
      simp
    · have hi : i < objs.size := by simp at h1; omega
      simp [Array.getElem_push, hi, Ne.symm e]
abbrev dO (es : List DictEntry) (n : Nat) : Obj := PySem.W.dictOf es n
/-- the fields of a fresh dict, set one by one -/
def fill (d : Addr) (ex : List (Str × Value)) : Sem PUnit := forIn ex PUnit.unit fun x _ => (nsSet d x.1 x.2 >>= fun _ => pure (ForInStep.yield PUnit.unit))
section
variable {P : Program} {w : World} {A : Around} {E : Value → Shared → Prop}
theorem wp_nsSet {hp : Heap} {g : Array GenState} {dr : Drawn} {tk : Nat} {os : OsState} {es : List DictEntry} {n : Nat} {k : Str} {v : Value} {Q : Unit → Shared → Prop} (hs : ∀ e ∈ es, e.key.isStr k = false) (hr : ∀ e ∈ es, e.refKey = false)
    (h : Q () ⟨hp.push (dO (es ++ [⟨PyData.keyHash w.params k, .str k tk, v⟩]) (n + 1)), g, dr, tk + 1, os⟩) : wpAny (model P w) A (nsSet hp.objs.size k v) Q E ⟨hp.push (dO es n), g, dr, tk, os⟩ := by
  have e1 : es.any (·.key.isStr k) = false := by
    cases q : es.any (·.key.isStr k) with
    | false => rfl
    | true =>
      obtain ⟨e, he, z⟩ := List.any_eq_true.mp q
      rw [hs e he] at z
      cases z
  have e2 : es.any (·.refKey) = false := by
    cases q : es.any (·.refKey) with
    | false => rfl
    | true =>
      obtain ⟨e, he, z⟩ := List.any_eq_true.mp q
      rw [hr e he] at z
      cases z
  have e : Obj.putName k (PyData.keyHash w.params k) (.str k tk) v (dO es n) = dO (es ++ [⟨PyData.keyHash w.params k, .str k tk, v⟩]) (n + 1) := by
    rw [PySem.W.putName_dict, PySem.W.putL_new hs]
    show PySem.W.dictOf _ (if es.any (·.key.isStr k) then n else n + 1) = _
    rw [e1, if_neg Bool.false_ne_true]
  have c : aRefKeyMayBeTheName k es.toArray = false := by
    rw [aRefKeyMayBeTheName_at, ← Array.any_toList, ← Array.any_toList]
    show (!es.any (·.key.isStr k) && es.any (·.refKey)) = false
    rw [e2, Bool.and_false]
  have D : (hp.push (dO es n)).get? hp.objs.size = some (dO es n) := Heap.get?_push_size _ rfl
  unfold nsSet
  refine wpAny_bind (wpAny_bind (wpAny_askSetting (wpAny_pure (wpAny_bind (wpAny_mkText (wpAny_bind (wpAny_loadPart D ?_)))))))
  dsimp only
  rw [c]
  refine wpAny_updatePart D ?_
  have z : (hp.push (dO es n)).update hp.objs.size (Obj.putName k (PyData.keyHash w.params k) (.str k tk) v) = hp.push (dO (es ++ [⟨PyData.keyHash w.params k, .str k tk, v⟩]) (n + 1)) := by rw [push_update, e]
  exact z ▸ h
theorem wp_fill {hp : Heap} {g : Array GenState} {dr : Drawn} {os : OsState} {Q : PUnit → Shared → Prop} : ∀ (ex : List (Str × Value)) (es : List DictEntry) (n tk : Nat), (∀ e ∈ es, ∀ x ∈ ex, e.key.isStr x.1 = false) → (∀ e ∈ es, e.refKey = false) → (ex.map (·.1)).Nodup →
    Q ⟨⟩ ⟨hp.push (dO (es ++ PySem.W.kwEs w.params tk ex) (n + ex.length)), g, dr, tk + ex.length, os⟩ → wpAny (model P w) A (fill hp.objs.size ex) Q E ⟨hp.push (dO es n), g, dr, tk, os⟩
  | [], es, n, tk, _, _, _, h => by
    unfold fill
    rw [List.forIn_nil]
    refine wpAny_pure ?_
    have e : es ++ PySem.W.kwEs w.params tk [] = es := List.append_nil es
    rw [e] at h
    exact h
  | x :: r, es, n, tk, hs, hr, hn, h => by
    obtain ⟨hn1, hn2⟩ := List.nodup_cons.mp (show (x.1 :: r.map (·.1)).Nodup from hn)
    unfold fill
    rw [List.forIn_cons]
    refine wpAny_bind (wpAny_bind (wp_nsSet (fun e he => hs e he x (.head _)) hr (wpAny_pure ?_)))
    show wpAny (model P w) A (fill hp.objs.size r) Q E _
    refine wp_fill r _ (n + 1) (tk + 1) (fun e he y hy => ?_) (fun e he => ?_) hn2 ?_
    · rcases List.mem_append.mp he with he | he
      · exact hs e he y (.tail _ hy)
      · obtain rfl := List.mem_singleton.mp he
        show (x.1 == y.1) = false
        exact beq_eq_false_iff_ne.mpr fun q => hn1 (by rw [q]; exact List.mem_map_of_mem hy)
    · rcases List.mem_append.mp he with he | he
      · exact hr e he
      · obtain rfl := List.mem_singleton.mp he
        rfl
    · have t1 : tk + 1 + r.length = tk + (r.length + 1) := by omega
      have t2 : n + 1 + r.length = n + (r.length + 1) := by omega
      rw [t1, t2, List.append_assoc]
      exact h
theorem mix_pairs : ∀ (ks : List Str) (us : List Value) (t : Nat), us.length = ks.length → Pairs (mixKind P w) (PySem.W.kwEs w.params t (ks.zip us)) ((ks.map (Sum.inr : Str → Key)).zip us)
  | [], [], _, _ => .nil
  | k :: ks, u :: us, t, h => .cons (keyIs_str k t) rfl (mix_pairs ks us (t + 1) (by simpa using h))
theorem kw_kv : ∀ (ks : List Str) {vs : List V} {us : List Value}, Vals vs us → KV ((ks.map (Sum.inr : Str → Key)).zip vs) ((ks.map (Sum.inr : Str → Key)).zip us)
  | [], _, _, _ => .nil
  | k :: ks, _, _, .nil => .nil
  | k :: ks, _, _, .cons r t => .cons ⟨rfl, r⟩ (kw_kv ks t)
theorem kw_obj {H : Hp} {hp : Heap} {ks : List Str} {vs : List V} {us : List Value} {tk n : Nat} (hb : sysModules < hp.objs.size) (r : Vals vs us) (hl : us.length = ks.length) (hz : ks.length ≤ 1000) (hn : ks.Nodup) :
    ObjOk P w H (hp.push (dO (PySem.W.kwEs w.params tk (ks.zip us)) n)) hp.objs.size (.dK ((ks.map (Sum.inr : Str → Key)).zip vs)) := by
  have hl2 : vs.length = ks.length := by rw [r.length, hl]
  have keys : ((ks.map (Sum.inr : Str → Key)).zip us).map (·.1) = ks.map Sum.inr := by
    rw [List.map_fst_zip]
    rw [List.length_map]
    omega
  refine ⟨?_, beq_eq_false_iff_ne.mpr (Ne.symm (Nat.ne_of_lt hb)), _, kw_kv ks r, _, (PySem.W.kwEs w.params tk (ks.zip us)).toArray, n, Heap.get?_push_size _ rfl, ⟨rfl, rfl, rfl⟩, rfl, fun e he => ?_, ?_, ?_⟩
  · rw [sizeLine_eq, List.length_zip, List.length_map]
    omega
  · obtain ⟨k, u, hk, hh⟩ := PySem.W.kwEs_key _ _ e (List.mem_toArray.mp he)
    exact ⟨.inr k, by rw [hk]; exact keyIs_str k u, hh⟩
  · exact mix_pairs ks us tk hl
  · rw [keys]
    exact List.Pairwise.map _ (fun a b h e => h (Sum.inr.inj e)) hn
end
/-- a def called by the keywords kn: its run takes the dict -/
def kwF (kn : List (List Nat)) (m : FN) : FN := fun ds S => if ds.length = kn.length then m [.ref S.size] (S.push (.dic false ((kn.map D.str).zip ds))) else .bad
abbrev kStr (kn : List (List Nat)) : List Str := kn.map fun l => ⟨l.toArray⟩
def CalK (G : Gx) (P : Program) (w : World) (mg : Str → Option Value) (base : Heap) (k : Nat) (f : Addr) (kn : List (List Nat)) (m : FN) : Prop :=
  ∀ (A : Around) (outer : List Env) (s : Shared) (H : Hp) (us : List Value) (vs : List V) (Q : VK) (E : XK), Room k A → Env0 P w G.K mg base A outer s H → Vals vs us → (∃ ρ S ds, Rl G ρ S H ∧ RVs G ρ H ds vs ∧ Post G ρ H (kwF kn m ds S) Q E) →
    codeAny (model P w) A (.call (.ref f) ⟨[], (kStr kn).zip us⟩) (CR (L2.CX P w) outer P w H s Q E) s
theorem kw_rks {G : Gx} {ρ : Wd} {H : Hp} : ∀ (kn : List (List Nat)) {ds : List D} {vs : List V}, RVs G ρ H ds vs → RKs G ρ H ((kn.map D.str).zip ds) (((kStr kn).map (Sum.inr : Str → Key)).zip vs)
  | [], _, _, _ => .nil
  | k :: ks, _, _, .nil => .nil
  | k :: ks, _, _, .cons r t => .cons rfl r (kw_rks ks t)
section
variable {G : Gx} {P : Program} {w : World} {mg : Str → Option Value} {base : Heap} {x qual pd : Str} {params : Arguments} {body : List Stmt} {scope : Scope} {f : Addr} {fd : FuncData} {N : List Str} {k : Nat} {ms : MS} {kn : List (List Nat)}
theorem calK_of (F : FunD G.K x qual params body scope [] [] f fd) (S : FnScope N [pd] scope) (hn : (kStr kn).Nodup) (hz : kn.length ≤ 1000)
    (hbind : ∀ (kV doc pm : Value) (an : Option Addr) (cdv ct : Value) (us : List Value), us.length = kn.length → bindArgs (PySem.W.fnOf x qual params body scope .none kV doc pm an cdv ct) ⟨[], (kStr kn).zip us⟩ =
      ((alloc ({ cls := .type "dict", data := .dict #[] } : Obj) : Sem Addr) >>= fun d => fill d ((kStr kn).zip us) >>= fun _ => pure [(pd, Value.ref d)]))
    (hb : ∀ (cdv : Value) (A : Around) (outer : List Env) (s : Shared) (H : Hp) (E : XK), Room k (A.deeper (envOfC qual scope s.heap.objs.size f cdv)) →
      Cc G (cxOf (L2.CX P w) P w G.K mg base N qual scope f cdv A outer s H E) (WF E) → SSs G (cxOf (L2.CX P w) P w G.K mg base N qual scope f cdv A outer s H E) (WF E) body ms) :
    CalK G P w mg base (k + 1) f kn (bodyRun N.length ms) := by
  intro A outer s H us vs Q E hr e0 r ⟨ρ, St, ds, rl, rv, p⟩
  obtain ⟨oc, od, dV, kV, doc, pm, an, cdv, ct, osl, rfl, lk, hcd, hD, hK⟩ := F.ex
  obtain rfl : dV = .none := by
    rcases hD with ⟨_, e⟩ | ⟨e, _⟩
    · exact e
    · exact absurd rfl e
  unfold kwF at p
  by_cases hl : ds.length = kn.length
  · rw [if_pos hl] at p
    have hlv : vs.length = kn.length := by rw [← rv.length]; exact hl
    have hlu : us.length = kn.length := by rw [← r.length]; exact hlv
    have hlk : us.length = (kStr kn).length := by rw [List.length_map]; exact hlu
    have hnone : H s.heap.objs.size = Option.none := e0.hok.fresh (Nat.le_refl _)
    have hkeys : ((kStr kn).zip us).map (·.1) = kStr kn := by
      rw [List.map_fst_zip]
      omega
    refine StX.run_bnd lk hcd S hr e0 (G := fun xs H2 => ∃ q, H q = Option.none ∧ xs = [V.ref q] ∧ H2 = upd H q (.dK (((kStr kn).map (Sum.inr : Str → Key)).zip vs))) (fun A' Ex Q' h => ?_) fun s2 H2 xs ⟨q, hq, ex, eH⟩ hr' => ?_
    · rw [hbind kV doc pm an cdv ct us hlu]
      obtain ⟨hp, g, dr, tk, os⟩ := s
      refine wpAny_bind (wpAny_alloc (wpAny_bind ?_))
      refine wp_fill (hp := hp) ((kStr kn).zip us) [] 0 tk (fun e he => absurd he List.not_mem_nil) (fun e he => absurd he List.not_mem_nil) (by rw [hkeys]; exact hn) (wpAny_pure ?_)
      have new : ObjOk P w (upd H hp.objs.size (.dK (((kStr kn).map (Sum.inr : Str → Key)).zip vs))) (hp.push (dO ([] ++ PySem.W.kwEs w.params tk ((kStr kn).zip us)) (0 + ((kStr kn).zip us).length))) hp.objs.size (.dK (((kStr kn).map (Sum.inr : Str → Key)).zip vs)) :=
        kw_obj (StX.env0_big e0) r hlk (by rw [List.length_map]; exact hz) hn
      have e1 := StX.env0_laid e0 new
      have un := StX.un_laid (fs := frs outer) (s := ⟨hp, g, dr, tk, os⟩) (o := dO ([] ++ PySem.W.kwEs w.params tk ((kStr kn).zip us)) (0 + ((kStr kn).zip us).length)) (u := .dK (((kStr kn).map (Sum.inr : Str → Key)).zip vs)) hnone
      have e2 : Env0 P w G.K mg base A outer ⟨hp.push (dO ([] ++ PySem.W.kwEs w.params tk ((kStr kn).zip us)) (0 + ((kStr kn).zip us).length)), g, dr, tk + ((kStr kn).zip us).length, os⟩ (upd H hp.objs.size (.dK (((kStr kn).map (Sum.inr : Str → Key)).zip vs))) :=
        ⟨e1.frames, e1.mod, e1.bs, e1.bsz, e1.funs, e1.frf, e1.hok, e1.bare⟩
      exact h _ _ [V.ref hp.objs.size] [Value.ref hp.objs.size] e2 un rfl (fun e s2 => StX.cxUp outer _ H _ _ E e s2 un (fun b o q => Heap.get?_push_of_some _ q) rfl) (.cons rfl .nil) rfl ⟨_, hnone, rfl, rfl⟩
    · subst ex eH
      have cc : Cc G (cxOf (L2.CX P w) P w G.K mg base N qual scope f cdv A outer s2 (upd H q (.dK (((kStr kn).map (Sum.inr : Str → Key)).zip vs))) E) (WF E) := ⟨rfl, takes_of rfl rfl rfl rfl, passes_of rfl, rfl, S.nd⟩
      have l : Le G ρ H (ρ.push q) (upd H q (.dK (((kStr kn).map (Sum.inr : Str → Key)).zip vs))) := Le.push hq
      have rl2 := rl.push hq (.dK (kw_rks kn rv))
      have p2 := PostR.le p l
      have rv2 : RVs G (ρ.push q) (upd H q (.dK (((kStr kn).map (Sum.inr : Str → Key)).zip vs))) [.ref St.size] [.ref q] := .cons (RV.new rl) .nil
      refine ⟨_, hb cdv A outer s2 _ E hr' cc, ρ.push q, _, St.push (.dic false ((kn.map D.str).zip ds)), rl2, re_start rv2, ?_⟩
      unfold bodyRun at p2
      cases q : ms (([D.ref St.size] : List D).map some ++ List.replicate (N.length - ([D.ref St.size] : List D).length) none) (St.push (.dic false ((kn.map D.str).zip ds))) with
      | rt d S1 => rw [q] at p2; exact p2
      | nx σ1 S1 => rw [q] at p2; exact fun ρ1 H1 σ' l1 rl1 re1 => p2 ρ1 H1 .non l1 rl1 .non
      | exc x σ1 S1 => rw [q] at p2; exact fun ρ1 H1 σ' c dd l1 rl1 re1 rx => p2 ρ1 H1 c dd l1 rl1 rx
      | bk σ1 S1 => rw [q] at p2; exact p2.elim
      | ct σ1 S1 => rw [q] at p2; exact p2.elim
      | bad => rw [q] at p2; exact p2.elim
  · rw [if_neg hl] at p
    exact p.elim
end
section
variable {G : Gx} {X : Cx} {W : WX} {k : Nat} {f : Addr} {x : Str} {kn : List (List Nat)} {m : FN} {ma : MA} {p pos : Pos}
theorem run_calK {pins : List (Addr × Obj)} {σ : St} {H : Hp} {s : Shared} {us : List Value} {vs : List V} {Q : VK} {ρ : Wd} {S : Store} {ds : List D} (cc : Cc G X W) (F : CalK G X.prog X.w X.mg X.base k f kn m) (hr : Room k X.A) (I : Inv X pins σ H s) (r : Vals vs us) (rl : Rl G ρ S H) (rv : RVs G ρ H ds vs)
    (p : Post G ρ H (kwF kn m ds S) Q (EW W σ)) : wpAny (model X.prog X.w) X.A (call (.ref f) [] ((kStr kn).zip us)) (EP X pins σ Q) X.xe s := by
  refine wpAny_call (codeAny_mono (F X.A X.stack s H us vs Q (EW W σ) hr (cc.k ▸ I.env0) r ⟨ρ, S, ds, rl, rv, p⟩) fun r s' hq => ?_)
  cases r with
  | error e => exact passAt cc.tk σ pins H s e s' I hq
  | ok fl =>
    cases fl with
    | ret u => exact I.after hq
    | next => exact False.elim hq
    | brk => exact False.elim hq
    | cont => exact False.elim hq
theorem fns_calK0 (cc : Cc G X W) (F : CalK G X.prog X.w X.mg X.base k f [] m) (hr : Room k X.A) : FnS G X W (.ref f) (kwF [] m) := by
  intro pins s σ H xs us Q ρ S es I r rl rv p
  have hes : es = [] := by
    unfold kwF at p
    by_cases h : es.length = 0
    · exact List.eq_nil_of_length_eq_zero h
    · rw [if_neg (show ¬ es.length = ([] : List (List Nat)).length from h)] at p
      exact p.elim
  subst hes
  cases rv
  cases r
  exact run_calK (kn := []) cc F hr I .nil rl .nil p
inductive SKs (G : Gx) (X : Cx) (W : WX) : List Keyword → List ME → Prop
  | nil : SKs G X W [] []
  | cons {e : Expr} {m : ME} {nm : Option Str} {kpos : Pos} {kws : List Keyword} {ms : List ME} : SE G X W e m → SKs G X W kws ms → SKs G X W (⟨nm, e, kpos⟩ :: kws) (m :: ms)
theorem sks_pk {kws : List Keyword} {ms : List ME} (h : SKs G X W kws ms) : PK X kws (tma G W (aList ms)) := by
  induction h with
  | nil => exact ⟨fun pos pins s σ H Q I ⟨ρ, σs, S, rl, re, p⟩ => pk_nil.run pos pins s σ H Q I (p ρ H [] Le.refl rl .nil)⟩
  | @cons e m nm kpos kws ms h1 _ ih =>
    refine ⟨fun pos pins s σ H Q I ⟨ρ, σs, S, rl, re, p⟩ => (pk_cons h1 ih).run pos pins s σ H Q I ?_⟩
    refine ⟨ρ, σs, S, rl, re, PostR.bind (R := RV G) (r := m σs S) p fun ρ1 H1 S1 d v l1 rl1 rv1 p1 => ?_⟩
    refine ⟨ρ1, σs, S1, rl1, re.mono l1, PostR.bind (R := RVs G) (r := aList ms σs S1) p1 fun ρ2 H2 S2 ds us l2 rl2 rv2 p2 => ?_⟩
    exact p2 ρ2 H2 _ Le.refl rl2 (.cons (rv1.mono l2) rv2)
def eKw (kn : List (List Nat)) (m : FN) (ms : List ME) : ME := eFn (kwF kn m) (aList ms)
theorem se_kw {kws : List Keyword} {ms : List ME} (cc : Cc G X W) (F : CalK G X.prog X.w X.mg X.base k f kn m) (hr : Room k X.A) (hg : Gl X x) (hm : X.mg x = some (.ref f)) (hk : PySem.W.keepIn X.K (.ref f) = true) (h : SKs G X W kws ms)
    (hks : (backToKw pos (keywordEach kws X.env)).filterMap (·.1) = kStr kn)
    (hall : (backToKw pos (keywordEach kws X.env)).all (·.1.isSome) = true := by rfl) (hdb : (x == ("__debug__" : Str)) = false := by decide)
    (hpl : ((backTo pos (starEach [] X.env)).any (·.1) || (backToKw pos (keywordEach kws X.env)).any (·.1.isNone)) = false := by rfl) :
    SE G X W (.Call (.Name x p) [] kws pos) (eKw kn m ms) := by
  refine ⟨fun pins s σ H Q I ⟨ρ, σs, S, rl, re, q⟩ => ?_⟩
  refine wpAny_Call_Name_kw (ld_glob I hg hm ?_ hdb)
  refine PySem.W.callWith_KW0 (h₀ := X.base) I.ok.mod.kin hk hall ?_ hpl
  refine thn ((sks_pk h).run pos pins s σ H (fun xs H1 => ∃ ρ1 S1 ds, Rl G ρ1 S1 H1 ∧ RVs G ρ1 H1 ds xs ∧ Post G ρ1 H1 (kwF kn m ds S1) Q (EW W σ)) I ⟨ρ, σs, S, rl, re, ?_⟩) ?_
  · refine PostR.bind (R := RVs G) (r := aList ms σs S) (f := kwF kn m) q fun ρ1 H1 S1 ds xs l1 rl1 rv1 p1 => ⟨ρ1, S1, ds, rl1, rv1, p1⟩
  · rintro ws s2 ⟨zs, H2, I2, rz, ρ1, S1, ds, rl1, rv1, p1⟩
    refine ⟨I2.kIn, ?_⟩
    rw [hks]
    exact run_calK cc F hr I2 rz rl1 rv1 p1
end
end L2.Mi

set_option Elab.async false
set_option linter.all false
set_option maxRecDepth 100000
set_option maxHeartbeats 2000000
namespace L2.Mi
open PySem PySem.Spec PyProof.Rows
theorem cloFrom_nil {cells : List (Str × Addr)} {names : List (Str × NameKind)} (h : ∀ y ∈ names, y.2 ≠ .free) : cloFrom cells names [] = [] := by
  cases q : cloFrom cells names [] with
  | nil => rfl
  | cons p r =>
    obtain ⟨n, c⟩ := p
    have m : (n, c) ∈ cloFrom cells names [] := by rw [q]; exact .head _
    rcases cloFrom_mem m with z | ⟨z, _⟩
    · cases z
    · exact absurd rfl (h _ z)
/-- a lambda's object, kept -/
abbrev lmO (q : Str) (ps : Arguments) (bd : Expr) (sc : Scope) (pm : Value) (c' : Addr) (ctv : Value) : HO := .frz (PySem.W.kla_obj "<lambda>" q ps bd sc [] pm c' ctv) (.ext fun _ => True)
section
variable {X : Cx} {pins : List (Addr × Obj)} {σ : St} {H : Hp} {s : Shared}
/-- the lambda is made and kept -/
theorem lam_val {T : List (Addr × Str)} {c P : Addr} {params : Arguments} {body : Expr} {scope : Scope} {pos : Pos} {E : Value → Shared → Prop} {Q : Value → Shared → Prop} (I : Inv X pins σ H s) (TB : LamX.TabB X.base X.mg c P) (hcode : X.env.code = .ref c)
    (hT : LamX.Tabs T H) (hm : T = [(P, X.env.qual ++ "<lambda>")]) (hdef : defaultsOf params X.env = ([], [])) (hfree : ∀ y ∈ scope.names, y.2 ≠ .free)
    (h : ∀ (f c' : Addr) (pm ctv : Value) (H1 : Hp) (s' : Shared), Inv X pins σ H1 s' → LamX.ExtN H H1 → LamX.Tabs T H1 → H1 f = some (lmO (X.env.qual ++ "<lambda>") params body scope pm c' ctv) → H1 c' = some (LamX.CodeO c' (X.env.qual ++ "<lambda>")) → Q (.ref f) s') :
    wpAny (model X.prog X.w) X.A (eval (.Lambda params body scope pos) X.env) Q E s := by
  subst hm
  obtain ⟨ps, hP, ht, ha⟩ := hT _ (List.mem_singleton.mpr rfl)
  have clo : cloFrom X.env.cells scope.names [] = [] := cloFrom_nil hfree
  have hcl : closureFor scope X.env = pure [] := by
    rw [← clo]
    exact closure_ok fun y hy e => absurd e (hfree y hy)
  refine PySem.W.kla_eval hdef ?_
  have bP : s.heap.BuiltinsAt X.mg P := TB.bm.keeps I.bk
  have hP' : s.heap.get? P = some { cls := .none, data := .fields ps } := I.hok P _ hP
  -- the function's object laid behind the rest
  have lay : ∀ {H1 : Hp} {h1 : Heap} {tk : Nat} {pm ctv : Value} {c' : Addr}, Inv X pins σ H1 { s with heap := h1, toks := tk } → LamX.ExtN H H1 → LamX.TabS H1 P (X.env.qual ++ "<lambda>") → H1 c' = some (LamX.CodeO c' (X.env.qual ++ "<lambda>")) →
      Q (.ref h1.objs.size) { s with heap := h1.push (PySem.W.kla_obj "<lambda>" (X.env.qual ++ "<lambda>") params body scope [] pm c' ctv), toks := tk } := fun {H1 h1 tk pm ctv c'} I1 e t hc => by
    have hn : H1 h1.objs.size = none := I1.hok.fresh (Nat.le_refl _)
    have hg : (h1.push (PySem.W.kla_obj "<lambda>" (X.env.qual ++ "<lambda>") params body scope [] pm c' ctv)).get? h1.objs.size = some (PySem.W.kla_obj "<lambda>" (X.env.qual ++ "<lambda>") params body scope [] pm c' ctv) := Heap.get?_push_size _ rfl
    have I2 := I1.laid (a := h1.objs.size) (o := lmO (X.env.qual ++ "<lambda>") params body scope pm c' ctv) (h' := h1.push (PySem.W.kla_obj "<lambda>" (X.env.qual ++ "<lambda>") params body scope [] pm c' ctv)) (t' := tk)
      (fun b u q => Heap.get?_push_of_some _ q) (Nat.le_refl _) ⟨hg, True.intro, ⟨_, hg⟩, fun _ _ _ _ => True.intro⟩
    have keep : ∀ b u, H1 b = some u → upd H1 h1.objs.size (lmO (X.env.qual ++ "<lambda>") params body scope pm c' ctv) b = some u := fun b u q => by rw [upd_ne (ne_of_none q hn)]; exact q
    refine h h1.objs.size c' pm ctv _ _ I2 (fun b u q n => keep b u (e b u q n)) (fun p hp => ?_) upd_same (keep _ _ hc)
    rw [List.mem_singleton.mp hp]
    exact t.ext keep
  cases hc : codeAmong pos ps.toList with
  | none =>
    refine PySem.W.kla_makeFunction (mg := X.mg) (c := c) (P := P) (ps := ps) hcl I.ok.glob (I.mod.glob.keeps I.bk) hcode (TB.code.keeps I.bk) hP' ht hc TB.gP bP fun c' ctv h' tk hx hge hlt hrec htb => ?_
    obtain ⟨c2, oc, vs, t, e2, hoc, hd, hv⟩ := hrec
    cases e2
    have nC : H c' = none := I.hok.fresh hge
    have I1 := LamX.inv_table (t' := tk) (more := #[rawInt pos.line, rawInt pos.col, .ref c']) (h' := h') I hP (fun b o hb e => hx b o hb e) htb hge ⟨oc, vs, t, hoc, hd, hv⟩
    have hE : LamX.ExtN H (upd (upd H P (.tbl (ps ++ #[rawInt pos.line, rawInt pos.col, .ref c']))) c' (LamX.CodeO c' (X.env.qual ++ "<lambda>"))) := fun b o e n => by
      rw [upd_ne (ne_of_none e nC), upd_ne (fun z => n ps (Option.some.inj (e.symm.trans (by rw [z]; exact hP))))]
      exact e
    have eL : (ps ++ #[rawInt pos.line, rawInt pos.col, .ref c']).toList = ps.toList ++ [rawInt pos.line, rawInt pos.col, .ref c'] := by simp
    refine lay I1 hE ⟨_, by rw [upd_ne (ne_of_none hP nC), upd_same], by rw [eL]; exact PySem.TriplesOk_snoc _ _ _ _ ht, fun p' cv hcv => ?_⟩ upd_same
    rw [eL] at hcv
    rcases LamX.among_app _ ht hcv with z | z
    · obtain ⟨c0, e1, e2⟩ := ha p' cv z
      exact ⟨c0, e1, hE _ _ e2 LamX.codeO_ne⟩
    · exact ⟨c', z, upd_same⟩
  | some cv =>
    obtain ⟨c', e, hco⟩ := ha pos cv hc
    subst e
    refine PySem.W.kla_makeFunctionHit (mg := X.mg) (c := c) (P := P) (ps := ps) hcl I.ok.glob (I.mod.glob.keeps I.bk) hcode (TB.code.keeps I.bk) hP' ht hc bP fun ctv h' tk hx hsz => ?_
    exact lay (I.kept hx) (LamX.ExtN.refl H) ⟨ps, hP, ht, ha⟩ hco
end
def CalL (G : Gx) (P : Program) (w : World) (mg : Str → Option Value) (base : Heap) (k : Nat) (j : Nat) (m : FN) : Prop :=
  ∀ (A : Around) (outer : List Env) (s : Shared) (H : Hp) (f c' : Addr) (q : Str) (ps : Arguments) (bd : Expr) (sc : Scope) (pm ctv : Value) (Q : VK) (E : XK), G.lams j = some (q, ps, bd, sc) → H f = some (lmO q ps bd sc pm c' ctv) → H c' = some (LamX.CodeO c' q) → Room k A → Env0 P w G.K mg base A outer s H →
    (∃ ρ S, Rl G ρ S H ∧ Post G ρ H (m [] S) Q E) → codeAny (model P w) A (.call (.ref f) ⟨[], []⟩) (CR (L2.CX P w) outer P w H s Q E) s
section
variable {G : Gx} {P : Program} {w : World} {mg : Str → Option Value} {base : Heap} {k j : Nat} {q : Str} {ps : Arguments} {bd : Expr} {sc : Scope} {m : ME}
def lamRun (m : ME) : FN := fun ds S => match ds with | [] => m [] S | _ => .bad
theorem calL_of (hj : G.lams j = some (q, ps, bd, sc)) (S : FnScope [] [] sc) (hbind : ∀ (pm cdv ctv : Value), bindArgs (PySem.W.kla_fn "<lambda>" q ps bd sc [] pm cdv ctv) ⟨[], []⟩ = pure [])
    (hb : ∀ (f : Addr) (cdv : Value) (A : Around) (outer : List Env) (s : Shared) (H : Hp) (E : XK), Room k (A.deeper (envOfC q sc s.heap.objs.size f cdv)) →
      Cc G (cxOf (L2.CX P w) P w G.K mg base [] q sc f cdv A outer s H E) (WF E) → SE G (cxOf (L2.CX P w) P w G.K mg base [] q sc f cdv A outer s H E) (WF E) bd m) :
    CalL G P w mg base (k + 1) j (lamRun m) := by
  intro A outer s H f c' q2 ps2 bd2 sc2 pm ctv Q E hj2 hf hc hr e0 ⟨ρ, St, rl, p⟩
  rw [hj] at hj2
  cases hj2
  have of1 : s.heap.get? f = some (PySem.W.kla_obj "<lambda>" q ps bd sc [] pm c' ctv) := (show ObjOk P w H s.heap f (lmO q ps bd sc pm c' ctv) from e0.hok f _ hf).1
  obtain ⟨⟨oc, vs, t, hoc, hdc, hvc⟩, _, _⟩ := (show ObjOk P w H s.heap c' (LamX.CodeO c' q) from e0.hok c' _ hc)
  have lim : s.heap.NoLimit := e0.mod.nolimit.keeps fun b o e => (e0.bs b o e).1
  refine PySem.W.kla_callFunE hr.depth of1 rfl S.co S.gen rfl ⟨c', oc, vs, t, rfl, hoc, hdc, hvc⟩ ?_
  rw [hbind]
  refine wpAny_pure (wpAny_newFunctionEnv_cells S.kind (fun y hy => absurd hy List.not_mem_nil) fun env he s1 x => ?_)
  subst he
  refine ⟨lim.keeps x.toInCall.keep, ?_⟩
  have I : Inv (cxOf (L2.CX P w) P w G.K mg base [] q sc f (.ref c') A outer s H E) [] (start [] []) H s1 := inv_start S hr.hd e0 rfl .nil x
  have cc : Cc G (cxOf (L2.CX P w) P w G.K mg base [] q sc f (.ref c') A outer s H E) (WF E) := ⟨rfl, takes_of rfl rfl rfl rfl, passes_of rfl, rfl, S.nd⟩
  have re : RE G ρ H [] (start [] []) := ⟨rfl, fun i d e => by simp at e⟩
  refine PySem.W.kla_codeExpr (wpAny_mono ((hb f (.ref c') A outer s H E (hr.deeper _) cc).run [] s1 _ H Q I ⟨ρ, [], St, rl, re, p⟩) (fun v s' hq => ?_) fun e s' hq => hq)
  obtain ⟨w', H', J, rv, q⟩ := hq
  exact ⟨w', H', J.os, J.bare, J.base, J.hok, rv, q⟩
end
section
variable {G : Gx} {X : Cx} {W : WX} {k : Nat} {a : Str} {mo : ME} {p pos : Pos}
/-- x(), x holds a lambda -/
def eCallL (lr : Nat → Option FN) (mo : ME) : ME := fun σ S => (mo σ S).bind fun d S1 => match d with
  | .lm j => (match lr j with | some g => g [] S1 | none => .bad)
  | _ => .bad
theorem se_callL {lr : Nat → Option FN} (cc : Cc G X W) (he : SE G X W (.Name a p) mo) (hr : Room k X.A) (hd : ∀ j g, lr j = some g → CalL G X.prog X.w X.mg X.base k j g) : SE G X W (.Call (.Name a p) [] [] pos) (eCallL lr mo) := by
  refine ⟨fun pins s σ H Q I ⟨ρ, σs, S, rl, re, p⟩ => ?_⟩
  refine wpAny_Call_Name_kw (he.go I rl re p fun u s1 x H1 ρ1 S1 d I1 rx l1 rl1 re1 rv1 p1 => ?_)
  cases rv1 with
  | @lm j f c' q ps bd sc pm ctv hj hf hc =>
    obtain rfl : u = Value.ref f := rx
    simp only at p1
    cases e : lr j with
    | none => simp only [e] at p1; exact p1.elim
    | some g =>
      simp only [e] at p1
      have of1 : s1.heap.get? f = some (PySem.W.kla_obj "<lambda>" q ps bd sc [] pm c' ctv) := (show ObjOk X.prog X.w H1 s1.heap f (lmO q ps bd sc pm c' ctv) from I1.hok f _ hf).1
      refine PySem.W.callWith_F0 ⟨_, _, _, _, of1⟩ ?_
      refine wpAny_call (codeAny_mono (hd j g e X.A X.stack s1 H1 f c' q ps bd sc pm ctv Q (EW W σ) hj hf hc hr (cc.k ▸ I1.env0) ⟨ρ1, S1, rl1, p1⟩) fun r s' hq => ?_)
      cases r with
      | error e => exact passAt cc.tk σ pins H1 s1 e s' I1 hq
      | ok fl =>
        cases fl with
        | ret u => exact I1.after hq
        | next => exact False.elim hq
        | brk => exact False.elim hq
        | cont => exact False.elim hq
  | _ => exact p1.elim
/-- lambda: e, as a value -/
theorem se_lamV {c P : Addr} {params : Arguments} {body : Expr} {scope : Scope} {j : Nat} (TB : LamX.TabB X.base X.mg c P) (hcode : X.env.code = .ref c) (hT : G.tabs = [(P, X.env.qual ++ "<lambda>")]) (hj : G.lams j = some (X.env.qual ++ "<lambda>", params, body, scope))
    (hdef : defaultsOf params X.env = ([], [])) (hfree : ∀ y ∈ scope.names, y.2 ≠ .free) : SE G X W (.Lambda params body scope pos) (eC (.lm j)) := by
  refine ⟨fun pins s σ H Q I ⟨ρ, σs, S, rl, re, p⟩ => ?_⟩
  refine lam_val I TB hcode rl.tb hT hdef hfree fun f c' pm ctv H1 s' I1 e t hf hc => ?_
  obtain ⟨l1, rl1⟩ := rl.lam e t
  exact ⟨.ref f, H1, I1, rfl, p ρ H1 (.ref f) l1 rl1 (.lm hj hf hc)⟩
end
end L2.Mi

set_option Elab.async false
set_option linter.all false
set_option maxRecDepth 100000
set_option maxHeartbeats 2000000
namespace L2.Mi
open PySem PySem.Spec PyProof.Rows
section
variable {G : Gx} {X : Cx} {W : WX} {e e2 : Expr} {m1 m2 : ME} {p pos tpos : Pos} {es : List Expr} {n : Nat}
theorem z0_jr {ρ0 : Wd} {H0 : Hp} {d1 d2 : D} {a b : Addr} (r1 : RV G ρ0 H0 d1 (.ref a)) (r2 : RV G ρ0 H0 d2 (.ref b)) : JR G ρ0 H0 (zsL d1 d2) (Itz G.K a b) := by
  intro ρ S H l kz rl i
  obtain ⟨h1, h2⟩ := zs_jr r1 r2 ρ S H l kz rl i
  refine ⟨h1, fun h => ?_⟩
  obtain ⟨xs, ys, s1, s2, l1, _⟩ := h2 h
  exact ⟨xs, ys, s1, s2, .inl l1⟩
theorem si_zip0 (cc : Cc G X W) (h1 : SE G X W e m1) (h2 : SE G X W e2 m2) (hg : Gl X "zip") (hm : X.mg "zip" = none)
    (hs : starEach [e, e2] X.env = (false, eval e X.env) :: starEach [e2] X.env := by rfl) (hs2 : starEach [e2] X.env = [(false, eval e2 X.env)] := by rfl) (hpl : (backTo pos (starEach [e2] X.env)).any (·.1) = false := by rfl) :
    SI G X W (.Tuple es n tpos) (.Call (.Name "zip" p) [e, e2] [] pos) (iZip2 m1 m2) := by
  refine PI.weak (RZ.pi_zipA hg hm (sa_cons h1 (sa_cons h2 sa_nil hs2) hs) hs hpl) fun σ H R ⟨ρ, σs, S, rl, re, p⟩ => ?_
  refine ⟨ρ, σs, S, rl, re, p.bind (R := RVs G) fun ρ1 H1 S1 ds xs l1 rl1 rv1 p1 => ?_⟩
  match ds, xs, rv1 with
  | [a, b], _, .cons ra (.cons rb .nil) =>
    dsimp only at p1
    cases q1 : listAt S1 a with
    | none => simp only [q1] at p1; exact p1.elim
    | some u =>
      cases q2 : listAt S1 b with
      | none => simp only [q1, q2] at p1; exact p1.elim
      | some v =>
        simp only [q1, q2] at p1
        obtain ⟨a', us, rfl, s1, _⟩ := listAt_rel rl1 ra q1
        obtain ⟨b', vs, rfl, s2, _⟩ := listAt_rel rl1 rb q2
        refine ⟨a', b', us, vs, rfl, .inl ⟨by rw [cc.k]; exact s1, by rw [cc.k]; exact s2, ?_⟩⟩
        rw [cc.k]
        exact p1 ρ1 H1 _ Le.refl rl1 (z0_jr ra rb)
  | [], _, .nil => exact p1.elim
  | [_], _, .cons _ .nil => exact p1.elim
  | _ :: _ :: _ :: _, _, _ => exact p1.elim
end
/-- as sLock; an exception goes out, the dict stays locked -/
def sLockX (i : Nat) (m : MS) : MS := fun σ S => match σ[i]? with
  | some (some (.ref n)) => (match S.get n with
    | some (.dic t kvs) => (match m σ (S.set n (.lck (.dic t kvs))) with
      | .nx σ1 S1 => .nx σ1 (S1.set n (.dic t kvs))
      | .rt d S1 => .rt d (S1.set n (.dic t kvs))
      | .exc x σ1 S1 => .exc x σ1 S1
      | _ => .bad)
    | _ => .bad)
  | _ => .bad
theorem ss_lockX {G : Gx} {X : Cx} {W : WX} {st : Stmt} {m : MS} (i : Nat) (h : SS G X W st m) : SS G X W st (sLockX i m) := by
  refine ss_of (ps_lock h) fun σ H Dn ρ σs S rl re p => ?_
  unfold sLockX at p
  cases q1 : σs[i]? with
  | none => simp only [q1] at p; exact p.elim
  | some o1 =>
    cases o1 with
    | none => simp only [q1] at p; exact p.elim
    | some d =>
      cases d with
      | ref n =>
        simp only [q1] at p
        cases q2 : S.get n with
        | none => simp only [q2] at p; exact p.elim
        | some ob =>
          cases ob with
          | dic t kvs =>
            simp only [q2] at p
            obtain ⟨v, _, rv⟩ := re.get i _ q1
            cases rv with
            | @ref _ a hi =>
              obtain ⟨u, hu, ro⟩ := rl.at hi q2
              obtain ⟨nt, mu, it⟩ := dic_ho ro
              refine ⟨a, u, hu, mu, fun od => ⟨ρ, σs, S.set n (.lck (.dic t kvs)), rl.set hi q2 hu nt (.lck ro), re.mono (rl.leUpd hi hu nt), ?_⟩⟩
              cases q3 : m σs (S.set n (.lck (.dic t kvs))) with
              | exc x σ1 S1 =>
                simp only [q3] at p
                exact fun ρ1 H1 w c dd l1 rl1 re1 rx => p ρ1 H1 w c dd ((rl.leUpd hi hu nt).trans l1) rl1 re1 rx
              | bad => simp only [q3] at p; exact p.elim
              | bk σ1 S1 => simp only [q3] at p; exact p.elim
              | ct σ1 S1 => simp only [q3] at p; exact p.elim
              | nx σ1 S1 =>
                simp only [q3] at p
                intro ρ1 H1 w l1 rl1 re1
                have k1 : H1 a = some (.frz od u) := l1.kz a od u upd_same
                have le := unlock_le rl hi hu nt l1
                have hi1 := pre_get l1.pre hi
                exact ⟨k1, p ρ1 (L2.upd H1 a u) w le (unlock_rl rl1 hi1 k1 (it od) (ro.mono le)) (re1.move (unlock_mv hi1 k1 (it od)))⟩
              | rt d S1 =>
                simp only [q3] at p
                intro ρ1 H1 w l1 rl1 rv1
                have k1 : H1 a = some (.frz od u) := l1.kz a od u upd_same
                have le := unlock_le rl hi hu nt l1
                have hi1 := pre_get l1.pre hi
                exact ⟨k1, p ρ1 (L2.upd H1 a u) w le (unlock_rl rl1 hi1 k1 (it od) (ro.mono le)) (rv1.move (unlock_mv hi1 k1 (it od)))⟩
          | _ => simp only [q2] at p; exact p.elim
      | _ => simp only [q1] at p; exact p.elim

theorem calK0 {G : Gx} {P : Program} {w : World} {mg : Str → Option Value} {base : Heap} {k : Nat} {f : Addr} {kn : List (List Nat)} : CalK G P w mg base k f kn (fun _ _ => .bad) := by
  intro A outer s H us vs Q E hr e0 r ⟨ρ, S, ds, rl, rv, p⟩
  unfold kwF at p
  split at p
  · exact p.elim
  · exact p.elim
theorem calL0 {G : Gx} {P : Program} {w : World} {mg : Str → Option Value} {base : Heap} {k j : Nat} : CalL G P w mg base k j (fun _ _ => .bad) := by
  intro A outer s H f c' q ps bd sc pm ctv Q E h1 h2 h3 hr e0 ⟨ρ, S, rl, p⟩
  exact p.elim
end L2.Mi

set_option Elab.async false
set_option linter.all false
set_option maxRecDepth 100000
set_option maxHeartbeats 4000000
namespace L2.Mi.Pg
open PySem PySem.Spec PyProof.Rows
def oAdd (call : Nat → FN) : D → D → Store → Res D := opOr (addF noOwn) catR
def oSub (call : Nat → FN) : D → D → Store → Res D := subF noOwn
def oMul (call : Nat → FN) : D → D → Store → Res D := opOr (mulF noOwn) repF
def dBitAnd (call : Nat → FN) : Disp := fun c => match c with | 0 => some (call 4) | _ => none
def oBitAnd (call : Nat → FN) : D → D → Store → Res D := (ownB (dBitAnd call))
def dBitOr (call : Nat → FN) : Disp := fun c => match c with | 0 => some (call 5) | _ => none
def oBitOr (call : Nat → FN) : D → D → Store → Res D := (ownB (dBitOr call))
def dInv (call : Nat → FN) : Disp := fun c => match c with | 0 => some (call 6) | _ => none
def oInv (call : Nat → FN) : D → Store → Res D := invF (dInv call)
def dLam (call : Nat → FN) : Nat → Option FN := fun k => match k with | 0 => some (call 21) | 1 => some (call 22) | 2 => some (call 23) | 3 => some (call 24) | _ => none
def isiL (t u : Tag) : Option Bool := (isiT.find? fun q => q.1 == t && q.2.1 == u).map (·.2.2)
def dEq (call : Nat → FN) : Disp := fun c => match c with | 0 => some (call 7) | _ => none
def oEq (call : Nat → FN) : D → D → Store → Res D := eqF (eqOwn isiL (dEq call))
def oNe (call : Nat → FN) : D → D → Store → Res D := neF (neOwn isiL (dEq call))
def dCall (call : Nat → FN) : Disp := fun c => match c with | 0 => some (call 3) | _ => none
def isxT : List (Nat × Nat × Bool) := [(1, 1, true)]
def isxL (i j : Nat) : Option Bool := isxTab isxT i j
def me_parts (call : Nat → FN) : Disp := fun c => match c with | 0 => some (call 2) | _ => none
def at_form (call : Nat → FN) : ADisp := fun c => match c with | 0 => some none | _ => none
def st_form (c : Nat) : Bool := match c with | 0 => true | _ => false
def m_1 (call : Nat → FN) : MS :=
  -- Condition.__init__
    sFld st_form 0 (eVar 0) (eVar 1)
def m_2 (call : Nat → FN) : MS :=
  -- Condition.parts
    sRet (eUn (attrF (at_form call) 0) (eVar 0))
def m_3 (call : Nat → FN) : MS :=
  -- Condition.__call__
    sMatchP (eqF noOwn) (eUn (attrF (at_form call) 0) (eVar 0)) [([.inl ((.str [97, 110, 121]))], sRet (eC (.bl true))), ([.inl ((.str [110, 111, 116])), .inr 2], sRet (eNot (eCallI (dCall call) (eVar 2) (aList [eVar 1])))), ([.inl ((.str [97, 110, 100])), .inr 2, .inr 3], sRet (eAnd (eCallI (dCall call) (eVar 2) (aList [eVar 1])) (eCallI (dCall call) (eVar 3) (aList [eVar 1])))), ([.inl ((.str [111, 114])), .inr 2, .inr 3], sRet (eOr (eCallI (dCall call) (eVar 2) (aList [eVar 1])) (eCallI (dCall call) (eVar 3) (aList [eVar 1])))), ([.inr 4, .inr 5], sRet (eBin (oEq call) (eBin itemF (eVar 1) (eKidx [[107, 105, 110, 100], [108, 101, 118, 101, 108], [97, 99, 99, 101, 115, 115], [111, 116, 104, 101, 114], [97, 114, 114, 97, 121], [119, 111, 114, 100]] (eVar 4))) (eVar 5)))]
def m_4 (call : Nat → FN) : MS :=
  -- Condition.__and__
    sRet (eFn (makeW 0 (call 1)) (aList [eTup [eC (.str [97, 110, 100]), eVar 0, eVar 1]]))
def m_5 (call : Nat → FN) : MS :=
  -- Condition.__or__
    sRet (eFn (makeW 0 (call 1)) (aList [eTup [eC (.str [111, 114]), eVar 0, eVar 1]]))
def m_6 (call : Nat → FN) : MS :=
  -- Condition.__invert__
    sRet (eFn (makeW 0 (call 1)) (aList [eTup [eC (.str [110, 111, 116]), eVar 0]]))
def m_7 (call : Nat → FN) : MS :=
  -- Condition.__eq__
    sRet (eAnd (eFn (isiF isiL) (aList [eVar 1, eC (.cl 0)])) (eBin (oEq call) (eUn (attrF (at_form call) 0) (eVar 0)) (eUn (attrF (at_form call) 0) (eVar 1))))
def m_8 (call : Nat → FN) : MS :=
  -- where
    sSeq (sSet 1 (eC .non))
    (sSeq (sLockX 0 (sFor (iKy (eVar 0)) (gName 2) (sSeq (sIf (tOf (eBin (inF true) (eVar 2) (eC (.kt [(.str [107, 105, 110, 100]), (.str [108, 101, 118, 101, 108]), (.str [97, 99, 99, 101, 115, 115]), (.str [111, 116, 104, 101, 114]), (.str [97, 114, 114, 97, 121]), (.str [119, 111, 114, 100])])))) (sRaise 1 1 (eVar 2)) (sNext))
    (sSeq (sSet 3 (eFn (makeW 0 (call 1)) (aList [eTup [eVar 2, eBin dgetL (eVar 0) (eVar 2)]])))
    (sSet 1 (eIf (tOf (eBin (isF false) (eVar 1) (eC .non))) (eVar 3) (eBin (oBitAnd call) (eVar 1) (eVar 3)))))) 1000))
    (sRet (eIf (tOf (eBin (isF false) (eVar 1) (eC .non))) (eFn (makeW 0 (call 1)) (aList [eTup [eC (.str [97, 110, 121])]])) (eVar 1))))
def m_9 (call : Nat → FN) : MS :=
  -- _law_pool
    sSeq (sSet 2 (eC (.int 0)))
    (sSeq (sIf (tOf (eBin ltI (eVar 1) (eFn lenF (aList [eVar 0])))) (sSet 2 (eBin itemF (eVar 0) (eVar 1))) (sNext))
    (sSeq (sSet 3 (eFn absF (aList [eVar 2])))
    (sSeq (sSet 4 (eBin modI (eBin (oMul call) (eFn intF (aList [eBin (oAdd call) (eBin modI (eFn intF (aList [eVar 2])) (eC (.int 2147483629))) (eBin (oMul call) (eC (.int 104729)) (eBin (oAdd call) (eVar 1) (eC (.int 1))))])) (eBin (oAdd call) (eVar 1) (eC (.int 7)))) (eC (.int 2147483629))))
    (sSeq (sSet 5 (eBin modI (eBin (oMul call) (eBin modI (eFn intF (aList [eBin (oMul call) (eVar 4) (eVar 4)])) (eC (.int 2147483629))) (eC (.int 48271))) (eC (.int 2147483647))))
    (sRet (eLst [eBin (oMul call) (eVar 3) (eFn intF (aList [eBin geI (eVar 3) (eBin powI (eC (.int 10)) (eC (.int 18)))])), eVar 5]))))))
def m_10 (call : Nat → FN) : MS :=
  -- _law_take
    sSeq (sIf (tOf (eBin gtI (eBin itemF (eVar 0) (eC (.int 0))) (eC (.int 0)))) (sSeq (sSet 2 (eBin modI (eFn intF (aList [eBin itemF (eVar 0) (eC (.int 0))])) (eVar 1)))
    (sSeq (sAsg (eBin divI (eBin itemF (eVar 0) (eC (.int 0))) (eVar 1)) (gSub (eVar 0) (eC (.int 0)) setL))
    (sRet (eVar 2)))) (sNext))
    (sSeq (sAsg (eBin modI (eFn intF (aList [eBin (oAdd call) (eBin (oMul call) (eBin itemF (eVar 0) (eC (.int 1))) (eC (.int 48271))) (eC (.int 12345))])) (eC (.int 2147483647))) (gSub (eVar 0) (eC (.int 1)) setL))
    (sRet (eBin modI (eBin divI (eBin modI (eFn intF (aList [eBin (oMul call) (eBin itemF (eVar 0) (eC (.int 1))) (eBin itemF (eVar 0) (eC (.int 1)))])) (eC (.int 2147483629))) (eC (.int 64))) (eVar 1))))
def m_11 (call : Nat → FN) : MS :=
  -- _law_atoms
    sSeq (sPar 1 2 (eLv [eC (.str [104, 105, 116]), eC (.str [109, 105, 115, 115]), eC (.str [99, 114, 111, 119, 100, 101, 100]), eC (.str [98, 97, 99, 107]), eC (.str [116, 104, 114, 111, 119, 110])]) (eLst []))
    (sSeq (sDrop (eBm isLst appendF (eVar 2) (aList [eTup [eC (.str [107, 105, 110, 100]), eBin itemF (eVar 1) (eFn (call 10) (aList [eVar 0, eC (.int 5)]))]])))
    (sSeq (sDrop (eBm isLst appendF (eVar 2) (aList [eTup [eC (.str [108, 101, 118, 101, 108]), eFn (call 10) (aList [eVar 0, eC (.int 3)])]])))
    (sSeq (sDrop (eBm isLst appendF (eVar 2) (aList [eTup [eC (.str [97, 99, 99, 101, 115, 115]), eFn (call 10) (aList [eVar 0, eC (.int 5)])]])))
    (sSeq (sDrop (eBm isLst appendF (eVar 2) (aList [eTup [eC (.str [111, 116, 104, 101, 114]), eFn (call 10) (aList [eVar 0, eC (.int 5)])]])))
    (sSeq (sDrop (eBm isLst appendF (eVar 2) (aList [eTup [eC (.str [97, 114, 114, 97, 121]), eBin itemF (eLv [eC (.str [97]), eC (.str [98])]) (eFn (call 10) (aList [eVar 0, eC (.int 2)]))]])))
    (sSeq (sDrop (eBm isLst appendF (eVar 2) (aList [eTup [eC (.str [119, 111, 114, 100]), eBin itemF (eLv [eC (.str [114, 101, 97, 100]), eC (.str [119, 114, 105, 116, 101])]) (eFn (call 10) (aList [eVar 0, eC (.int 2)]))]])))
    (sRet (eBin (oAdd call) (eVar 2) (eLv [eTup [eC (.str [97, 110, 121])]])))))))))
def m_12 (call : Nat → FN) : MS :=
  -- _law_form
    sSeq (sSet 2 (eFn (call 10) (aList [eVar 0, eC (.int 6)])))
    (sSeq (sIf (tOr (tOf (eBin (oEq call) (eVar 1) (eC (.int 0)))) (tOf (eBin ltI (eVar 2) (eC (.int 2))))) (sRet (eBin itemF (eFn (call 11) (aList [eVar 0])) (eFn (call 10) (aList [eVar 0, eC (.int 7)])))) (sNext))
    (sSeq (sIf (tOf (eBin (oEq call) (eVar 2) (eC (.int 2)))) (sRet (eTup [eC (.str [110, 111, 116]), eFn (call 12) (aList [eVar 0, eBin (oSub call) (eVar 1) (eC (.int 1))])])) (sNext))
    (sRet (eTup [eBin itemF (eLv [eC (.str [97, 110, 100]), eC (.str [111, 114])]) (eBin modI (eVar 2) (eC (.int 2))), eFn (call 12) (aList [eVar 0, eBin (oSub call) (eVar 1) (eC (.int 1))]), eFn (call 12) (aList [eVar 0, eBin (oSub call) (eVar 1) (eC (.int 1))])]))))
def m_13 (call : Nat → FN) : MS :=
  -- _law_holds
    sSeq (sIf (tOf (eBin (oEq call) (eBin itemF (eVar 0) (eC (.int 0))) (eC (.str [97, 110, 121])))) (sRet (eC (.bl true))) (sNext))
    (sSeq (sIf (tOf (eBin (oEq call) (eBin itemF (eVar 0) (eC (.int 0))) (eC (.str [110, 111, 116])))) (sRet (eNot (eFn (call 13) (aList [eBin itemF (eVar 0) (eC (.int 1)), eVar 1])))) (sNext))
    (sSeq (sIf (tOf (eBin (oEq call) (eBin itemF (eVar 0) (eC (.int 0))) (eC (.str [97, 110, 100])))) (sRet (eAnd (eFn (call 13) (aList [eBin itemF (eVar 0) (eC (.int 1)), eVar 1])) (eFn (call 13) (aList [eBin itemF (eVar 0) (eC (.int 2)), eVar 1])))) (sNext))
    (sSeq (sIf (tOf (eBin (oEq call) (eBin itemF (eVar 0) (eC (.int 0))) (eC (.str [111, 114])))) (sRet (eOr (eFn (call 13) (aList [eBin itemF (eVar 0) (eC (.int 1)), eVar 1])) (eFn (call 13) (aList [eBin itemF (eVar 0) (eC (.int 2)), eVar 1])))) (sNext))
    (sRet (eBin (oEq call) (eBin itemF (eVar 1) (eBm isLst indexF (eLv [eC (.str [107, 105, 110, 100]), eC (.str [108, 101, 118, 101, 108]), eC (.str [97, 99, 99, 101, 115, 115]), eC (.str [111, 116, 104, 101, 114]), eC (.str [97, 114, 114, 97, 121]), eC (.str [119, 111, 114, 100])]) (aList [eBin itemF (eVar 0) (eC (.int 0))]))) (eBin itemF (eVar 0) (eC (.int 1))))))))
def m_14 (call : Nat → FN) : MS :=
  -- _law_is_like
    sSeq (sSet 2 (eMeth (me_parts call) 2 (eVar 0) (aList [])))
    (sSeq (sIf (tOr (tOf (eBin (oNe call) (eFn lenF (aList [eVar 2])) (eFn lenF (aList [eVar 1])))) (tOf (eBin (oNe call) (eBin itemF (eVar 2) (eC (.int 0))) (eBin itemF (eVar 1) (eC (.int 0)))))) (sRet (eC (.bl false))) (sNext))
    (sSeq (sIf (tOf (eBin (oEq call) (eBin itemF (eVar 1) (eC (.int 0))) (eC (.str [110, 111, 116])))) (sRet (eFn (call 14) (aList [eBin itemF (eVar 2) (eC (.int 1)), eBin itemF (eVar 1) (eC (.int 1))]))) (sNext))
    (sSeq (sIf (tOf (eBin (inF false) (eBin itemF (eVar 1) (eC (.int 0))) (eLv [eC (.str [97, 110, 100]), eC (.str [111, 114])]))) (sRet (eAnd (eFn (call 14) (aList [eBin itemF (eVar 2) (eC (.int 1)), eBin itemF (eVar 1) (eC (.int 1))])) (eFn (call 14) (aList [eBin itemF (eVar 2) (eC (.int 2)), eBin itemF (eVar 1) (eC (.int 2))])))) (sNext))
    (sRet (eBin (oEq call) (eVar 2) (eVar 1))))))
def m_15 (call : Nat → FN) : MS :=
  -- _law_row
    sSeq (sSet 1 (eBin itemF (eLv [eC (.str [104, 105, 116]), eC (.str [109, 105, 115, 115]), eC (.str [99, 114, 111, 119, 100, 101, 100]), eC (.str [98, 97, 99, 107]), eC (.str [116, 104, 114, 111, 119, 110])]) (eFn (call 10) (aList [eVar 0, eC (.int 5)]))))
    (sSeq (sPar 2 3 (eFn (call 10) (aList [eVar 0, eC (.int 3)])) (eFn (call 10) (aList [eVar 0, eBin powI (eC (.int 10)) (eC (.int 9))])))
    (sSeq (sIf (tOf (eBin (oEq call) (eVar 1) (eC (.str [98, 97, 99, 107])))) (sRet (eTup [eVar 1, eVar 2, eC .non, eC .non, eC .non, eC .non, eVar 3])) (sNext))
    (sSeq (sSet 4 (eIf (tOf (eBin (oEq call) (eVar 1) (eC (.str [116, 104, 114, 111, 119, 110])))) (eFn (call 10) (aList [eVar 0, eC (.int 5)])) (eC .non)))
    (sSeq (sSet 5 (eFn (call 10) (aList [eVar 0, eC (.int 5)])))
    (sRet (eTup [eVar 1, eVar 2, eVar 5, eVar 4, eBin itemF (eLv [eC (.str [97]), eC (.str [98])]) (eFn (call 10) (aList [eVar 0, eC (.int 2)])), eBin itemF (eLv [eC (.str [114, 101, 97, 100]), eC (.str [119, 114, 105, 116, 101])]) (eFn (call 10) (aList [eVar 0, eC (.int 2)])), eVar 3]))))))
def m_16 (call : Nat → FN) : MS :=
  -- _law_atom
    sSeq (sIf (tOf (eBin (oEq call) (eVar 0) (eC (.str [107, 105, 110, 100])))) (sRet (eKw [[107, 105, 110, 100]] (call 20) [eVar 1])) (sNext))
    (sSeq (sIf (tOf (eBin (oEq call) (eVar 0) (eC (.str [108, 101, 118, 101, 108])))) (sRet (eKw [[108, 101, 118, 101, 108]] (call 20) [eVar 1])) (sNext))
    (sSeq (sIf (tOf (eBin (oEq call) (eVar 0) (eC (.str [97, 99, 99, 101, 115, 115])))) (sRet (eKw [[97, 99, 99, 101, 115, 115]] (call 20) [eVar 1])) (sNext))
    (sSeq (sIf (tOf (eBin (oEq call) (eVar 0) (eC (.str [111, 116, 104, 101, 114])))) (sRet (eKw [[111, 116, 104, 101, 114]] (call 20) [eVar 1])) (sNext))
    (sRet (eIf (tOf (eBin (oEq call) (eVar 0) (eC (.str [97, 114, 114, 97, 121])))) (eKw [[97, 114, 114, 97, 121]] (call 20) [eVar 1]) (eKw [[119, 111, 114, 100]] (call 20) [eVar 1]))))))
def m_17 (call : Nat → FN) : MS :=
  -- _law_built
    sSeq (sIf (tOf (eBin (oEq call) (eBin itemF (eVar 0) (eC (.int 0))) (eC (.str [97, 110, 121])))) (sRet (eFn (kwF [] (call 20)) (aList []))) (sNext))
    (sSeq (sIf (tOf (eBin (oEq call) (eBin itemF (eVar 0) (eC (.int 0))) (eC (.str [110, 111, 116])))) (sRet (eUn (oInv call) (eFn (call 17) (aList [eBin itemF (eVar 0) (eC (.int 1))])))) (sNext))
    (sSeq (sIf (tOf (eBin (inF false) (eBin itemF (eVar 0) (eC (.int 0))) (eLv [eC (.str [97, 110, 100]), eC (.str [111, 114])]))) (sSeq (sPar 1 2 (eFn (call 17) (aList [eBin itemF (eVar 0) (eC (.int 1))])) (eFn (call 17) (aList [eBin itemF (eVar 0) (eC (.int 2))])))
    (sRet (eIf (tOf (eBin (oEq call) (eBin itemF (eVar 0) (eC (.int 0))) (eC (.str [97, 110, 100])))) (eBin (oBitAnd call) (eVar 1) (eVar 2)) (eBin (oBitOr call) (eVar 1) (eVar 2))))) (sNext))
    (sRet (eFn (call 16) (aList [eBin itemF (eVar 0) (eC (.int 0)), eBin itemF (eVar 0) (eC (.int 1))])))))
def m_18 (call : Nat → FN) : MS :=
  -- _law_heard
    sTry isxL (sSeq (sDrop (eCallL (dLam call) (eVar 0)))
    (sRet (eC .non))) [⟨1, some 1, xF 1 1⟩]
def m_19 (call : Nat → FN) : MS :=
  -- law
    sSeq (sFor (iRange1 (eFn max2F (aList [eC (.int 1), eFn min2F (aList [eFn lenF (aList [eVar 0]), eC (.int 6)])]))) (gName 1) (sSeq (sSet 2 (eFn (call 9) (aList [eVar 0, eVar 1])))
    (sSeq (sPar 3 4 (eLcV (iRange1 (eC (.int 12))) (.one 5) (tYesM) (eFn (call 15) (aList [eVar 2])) [5] 1000) (eLcV (iRange1 (eC (.int 6))) (.one 5) (tYesM) (eFn (call 12) (aList [eVar 2, eC (.int 3)])) [5] 1000))
    (sSeq (sFor (iSeq (eVar 4)) (gName 6) (sSeq (sSet 7 (eLcV (iSeq (eVar 3)) (.one 8) (tYesM) (eCallI (dCall call) (eFn (call 17) (aList [eVar 6])) (aList [eVar 8])) [8] 1000))
    (sIf (tOf (eBin (oNe call) (eFn (reprF 8) (aList [eVar 7])) (eFn (reprF 8) (aList [eLcV (iSeq (eVar 3)) (.one 8) (tYesM) (eFn (call 13) (aList [eVar 6, eVar 8])) [8] 1000])))) (sRet (eC (.bl false))) (sNext))) 1000)
    (sSeq (sSet 8 (eBin itemF (eVar 3) (eC (.int 0))))
    (sSeq (sSet 9 (eKw [[107, 105, 110, 100], [97, 114, 114, 97, 121], [108, 101, 118, 101, 108]] (call 20) [eBin itemF (eVar 8) (eC (.int 0)), eBin itemF (eVar 8) (eC (.int 4)), eBin itemF (eVar 8) (eC (.int 1))]))
    (sSeq (sSet 10 (eTup [eC (.str [97, 110, 100]), eTup [eC (.str [97, 110, 100]), eTup [eC (.str [107, 105, 110, 100]), eBin itemF (eVar 8) (eC (.int 0))], eTup [eC (.str [97, 114, 114, 97, 121]), eBin itemF (eVar 8) (eC (.int 4))]], eTup [eC (.str [108, 101, 118, 101, 108]), eBin itemF (eVar 8) (eC (.int 1))]]))
    (sSeq (sIf (tOr (tNot (tTru (eFn (call 14) (aList [eVar 9, eVar 10])))) (tOf (eBin (isF true) (eCallI (dCall call) (eVar 9) (aList [eVar 8])) (eC (.bl true))))) (sRet (eC (.bl false))) (sNext))
    (sSeq (sIf (tOr (tNot (tTru (eFn (call 14) (aList [eKw [[111, 116, 104, 101, 114]] (call 20) [eBin itemF (eVar 8) (eC (.int 3))], eTup [eC (.str [111, 116, 104, 101, 114]), eBin itemF (eVar 8) (eC (.int 3))]])))) (tOf (eBin (isF true) (eCallI (dCall call) (eKw [[111, 116, 104, 101, 114]] (call 20) [eBin itemF (eVar 8) (eC (.int 3))]) (aList [eVar 8])) (eC (.bl true))))) (sRet (eC (.bl false))) (sNext))
    (sSeq (sSet 11 (eLcV (iSeq (eVar 3)) (.one 12) (tTru (eCallI (dCall call) (eKw [[97, 99, 99, 101, 115, 115], [119, 111, 114, 100]] (call 20) [eBin itemF (eVar 8) (eC (.int 2)), eBin itemF (eVar 8) (eC (.int 5))]) (aList [eVar 12]))) (eVar 12) [12] 1000))
    (sSeq (sIf (tOf (eBin (oNe call) (eVar 11) (eLcV (iSeq (eVar 3)) (.one 12) (tAnd (tOf (eBin (oEq call) (eBin itemF (eVar 12) (eC (.int 2))) (eBin itemF (eVar 8) (eC (.int 2))))) (tOf (eBin (oEq call) (eBin itemF (eVar 12) (eC (.int 5))) (eBin itemF (eVar 8) (eC (.int 5)))))) (eVar 12) [12] 1000))) (sRet (eC (.bl false))) (sNext))
    (sIf (tOf (eBin (oNe call) (eLcV (iSeq (eVar 3)) (.one 12) (tTru (eCallI (dCall call) (eUn (oInv call) (eKw [[108, 101, 118, 101, 108]] (call 20) [eC (.int 1)])) (aList [eVar 12]))) (eVar 12) [12] 1000) (eLcV (iSeq (eVar 3)) (.one 12) (tOf (eBin (oNe call) (eBin itemF (eVar 12) (eC (.int 1))) (eC (.int 1)))) (eVar 12) [12] 1000))) (sRet (eC (.bl false))) (sNext)))))))))))) 1000)
    (sSeq (sSet 13 (eLst [eC (.lm 0)]))
    (sSeq (sDrop (eBm isLst appendF (eVar 13) (aList [eC (.lm 1)])))
    (sSeq (sDrop (eBm isLst appendF (eVar 13) (aList [eC (.lm 2)])))
    (sSeq (sFor (iZip2 (eVar 13) (eLv [eC (.str [108, 101, 118, 101, 108, 115]), eC (.str [116, 111, 116, 97, 108]), eC (.str [101, 118, 101, 114, 121])])) (gTup [gName 14, gName 10]) (sIf (tOf (eBin (oNe call) (eFn (call 18) (aList [eVar 14])) (eVar 10))) (sRet (eC (.bl false))) (sNext)) 1000)
    (sRet (eBin (oEq call) (eFn (call 18) (aList [eC (.lm 3)])) (eC (.str [115, 112, 111, 116]))))))))
def lm_0 (call : Nat → FN) : ME := eKw [[108, 101, 118, 101, 108, 115]] (call 20) [eC (.int 2)]
def lm_1 (call : Nat → FN) : ME := eKw [[108, 101, 118, 101, 108], [116, 111, 116, 97, 108]] (call 20) [eC (.int 1), eC (.int 2)]
def lm_2 (call : Nat → FN) : ME := eKw [[101, 118, 101, 114, 121], [107, 105, 110, 100]] (call 20) [eC .non, eC (.str [104, 105, 116])]
def lm_3 (call : Nat → FN) : ME := eKw [[108, 101, 118, 101, 108], [107, 105, 110, 100], [115, 112, 111, 116]] (call 20) [eC (.int 1), eC (.str [120]), eC (.int 3)]
def bodies : List ((Nat → FN) → FN) := [fun call => fun _ _ => .bad,
  fun call => callD 2 [] (bodyRun 2 (m_1 call)),
  fun call => callD 1 [] (bodyRun 1 (m_2 call)),
  fun call => callD 2 [] (bodyRun 6 (m_3 call)),
  fun call => callD 2 [] (bodyRun 2 (m_4 call)),
  fun call => callD 2 [] (bodyRun 2 (m_5 call)),
  fun call => callD 1 [] (bodyRun 1 (m_6 call)),
  fun call => callD 2 [] (bodyRun 2 (m_7 call)),
  fun call => fun _ _ => .bad,
  fun call => callD 2 [] (bodyRun 6 (m_9 call)),
  fun call => callD 2 [] (bodyRun 3 (m_10 call)),
  fun call => callD 1 [] (bodyRun 3 (m_11 call)),
  fun call => callD 2 [] (bodyRun 3 (m_12 call)),
  fun call => callD 2 [] (bodyRun 2 (m_13 call)),
  fun call => callD 2 [] (bodyRun 3 (m_14 call)),
  fun call => callD 1 [] (bodyRun 6 (m_15 call)),
  fun call => callD 2 [] (bodyRun 2 (m_16 call)),
  fun call => callD 1 [] (bodyRun 3 (m_17 call)),
  fun call => callD 1 [] (bodyRun 2 (m_18 call)),
  fun call => fun _ _ => .bad,
  fun call => bodyRun 4 (m_8 call),
  fun call => lamRun (lm_0 call),
  fun call => lamRun (lm_1 call),
  fun call => lamRun (lm_2 call),
  fun call => lamRun (lm_3 call)]
def run : Nat → Nat → FN
  | 0, _ => fun _ _ => .bad
  | n + 1, i => (bodies.getD i fun _ _ _ => .bad) (run n)
theorem run_8 {n : Nat} {S : Store} {a0 : D} : run (n + 1) 20 [a0] S = fin (m_8 (run n) [some a0, none, none, none] S) := rfl
theorem run_1 {n : Nat} {S : Store} {a0 : D} {a1 : D} : run (n + 1) 1 [a0, a1] S = fin (m_1 (run n) [some a0, some a1] S) := rfl
theorem run_2 {n : Nat} {S : Store} {a0 : D} : run (n + 1) 2 [a0] S = fin (m_2 (run n) [some a0] S) := rfl
theorem run_3 {n : Nat} {S : Store} {a0 : D} {a1 : D} : run (n + 1) 3 [a0, a1] S = fin (m_3 (run n) [some a0, some a1, none, none, none, none] S) := rfl
theorem run_4 {n : Nat} {S : Store} {a0 : D} {a1 : D} : run (n + 1) 4 [a0, a1] S = fin (m_4 (run n) [some a0, some a1] S) := rfl
theorem run_5 {n : Nat} {S : Store} {a0 : D} {a1 : D} : run (n + 1) 5 [a0, a1] S = fin (m_5 (run n) [some a0, some a1] S) := rfl
theorem run_6 {n : Nat} {S : Store} {a0 : D} : run (n + 1) 6 [a0] S = fin (m_6 (run n) [some a0] S) := rfl
theorem run_9 {n : Nat} {S : Store} {a0 : D} {a1 : D} : run (n + 1) 9 [a0, a1] S = fin (m_9 (run n) [some a0, some a1, none, none, none, none] S) := rfl
theorem run_10 {n : Nat} {S : Store} {a0 : D} {a1 : D} : run (n + 1) 10 [a0, a1] S = fin (m_10 (run n) [some a0, some a1, none] S) := rfl
theorem run_11 {n : Nat} {S : Store} {a0 : D} : run (n + 1) 11 [a0] S = fin (m_11 (run n) [some a0, none, none] S) := rfl
theorem run_12 {n : Nat} {S : Store} {a0 : D} {a1 : D} : run (n + 1) 12 [a0, a1] S = fin (m_12 (run n) [some a0, some a1, none] S) := rfl
theorem run_13 {n : Nat} {S : Store} {a0 : D} {a1 : D} : run (n + 1) 13 [a0, a1] S = fin (m_13 (run n) [some a0, some a1] S) := rfl
theorem run_14 {n : Nat} {S : Store} {a0 : D} {a1 : D} : run (n + 1) 14 [a0, a1] S = fin (m_14 (run n) [some a0, some a1, none] S) := rfl
theorem run_15 {n : Nat} {S : Store} {a0 : D} : run (n + 1) 15 [a0] S = fin (m_15 (run n) [some a0, none, none, none, none, none] S) := rfl
theorem run_16 {n : Nat} {S : Store} {a0 : D} {a1 : D} : run (n + 1) 16 [a0, a1] S = fin (m_16 (run n) [some a0, some a1] S) := rfl
theorem run_17 {n : Nat} {S : Store} {a0 : D} : run (n + 1) 17 [a0] S = fin (m_17 (run n) [some a0, none, none] S) := rfl
theorem run_18 {n : Nat} {S : Store} {a0 : D} : run (n + 1) 18 [a0] S = fin (m_18 (run n) [some a0, none] S) := rfl
def kwl_0 : List (List (List Nat)) := [[[107, 105, 110, 100]], [[108, 101, 118, 101, 108]], [[97, 99, 99, 101, 115, 115]], [[111, 116, 104, 101, 114]], [[97, 114, 114, 97, 121]], [[119, 111, 114, 100]], [], [[107, 105, 110, 100], [97, 114, 114, 97, 121], [108, 101, 118, 101, 108]], [[97, 99, 99, 101, 115, 115], [119, 111, 114, 100]], [[108, 101, 118, 101, 108, 115]], [[108, 101, 118, 101, 108], [116, 111, 116, 97, 108]], [[101, 118, 101, 114, 121], [107, 105, 110, 100]], [[108, 101, 118, 101, 108], [107, 105, 110, 100], [115, 112, 111, 116]]]
end L2.Mi.Pg

set_option Elab.async false
set_option linter.all false
set_option maxRecDepth 100000
set_option maxHeartbeats 4000000
namespace L2.Mi.Pg
open PySem PySem.Spec PyProof.Rows
section
variable {K : Fg} {c : L.Says K} {X : Cx} {W : WX} {n : Nat}
def isG (j : Nat) : Bool := [19].contains j
abbrev IH (c : L.Says K) (P : Program) (w : World) (mg : Str → Option Value) (base : Heap) (n : Nat) : Prop := (∀ (j : Nat) {d : DefM}, defs[j]? = some d → isG j = false → Cal (L.gx K c) P w mg base (lv n) (d.pth.ad K) (run n j)) ∧ (∀ (j : Nat) {d : DefM}, defs[j]? = some d → CalG (L.gx K c) P w mg base (lv n) (d.pth.ad K) (run n j)) ∧ (∀ kn ∈ kwl_0, CalK (L.gx K c) P w mg base (lv n) (He.ga K "where") kn (run n 20)) ∧ (∀ j g, dLam (run n) j = some g → CalL (L.gx K c) P w mg base (lv n) j g)
theorem isxL_ok (c : L.Says K) : ∀ c1 c2 b v1 v2, isxL c1 c2 = some b → (L.gx K c).clsv c1 = some v1 → (L.gx K c).clsv c2 = some v2 → PySem.W.exmOne (L.gx K c).K v1 v2 = some b := isxTab_ok c (by decide +kernel)
theorem hu_of {k : Nat} (hr : Room k X.A) : X.A.units + 64 < cLine := by have := hr.un; omega
theorem hu65_of {k : Nat} (hr : Room k X.A) : X.A.units + 65 < cLine := by have := hr.un; omega
theorem oAdd_ok (cc : Cc (L.gx K c) X W) (hr : Room (lv n + 1) X.A) (ih : IH c X.prog X.w X.mg X.base n) : OpS (L.gx K c) X W (binaryOp .Add) (oAdd (run n)) := (ops_add cc (noOwn_ok)).or ops_catR
theorem oSub_ok (cc : Cc (L.gx K c) X W) (hr : Room (lv n + 1) X.A) (ih : IH c X.prog X.w X.mg X.base n) : OpS (L.gx K c) X W (binaryOp .Sub) (oSub (run n)) := ops_sub (noOwn_ok)
theorem oMul_ok (cc : Cc (L.gx K c) X W) (hr : Room (lv n + 1) X.A) (ih : IH c X.prog X.w X.mg X.base n) : OpS (L.gx K c) X W (binaryOp .Mult) (oMul (run n)) := (ops_mul (noOwn_ok)).or (ops_rep cc)
theorem oBitAnd_ok (cc : Cc (L.gx K c) X W) (hr : Room (lv n + 1) X.A) (ih : IH c X.prog X.w X.mg X.base n) : OpS (L.gx K c) X W (binaryOp .BitAnd) (oBitAnd (run n)) := ops_own (fun ci g h => by
    unfold dBitAnd at h
    split at h
    · cases h; exact binS c 0 31 rfl rfl (fns_cal cc (ih.1 4 rfl rfl) (hr.mono (Nat.le_succ _))) cc.k
    · cases h)
theorem oBitOr_ok (cc : Cc (L.gx K c) X W) (hr : Room (lv n + 1) X.A) (ih : IH c X.prog X.w X.mg X.base n) : OpS (L.gx K c) X W (binaryOp .BitOr) (oBitOr (run n)) := ops_own (fun ci g h => by
    unfold dBitOr at h
    split at h
    · cases h; exact binS c 0 32 rfl rfl (fns_cal cc (ih.1 5 rfl rfl) (hr.mono (Nat.le_succ _))) cc.k
    · cases h)
theorem oInv_ok (cc : Cc (L.gx K c) X W) (hr : Room (lv n + 1) X.A) (ih : IH c X.prog X.w X.mg X.base n) : UnS (L.gx K c) X W (unaryOp .Invert) (oInv (run n)) := uns_inv (fun ci g h => by
    unfold dInv at h
    split at h
    · cases h; exact unS c 0 33 rfl rfl (fns_cal cc (ih.1 6 rfl rfl) (hr.mono (Nat.le_succ _))) cc.k
    · cases h)
theorem oEq_ok (cc : Cc (L.gx K c) X W) (hr : Room (lv n + 1) X.A) (ih : IH c X.prog X.w X.mg X.base n) : OpS (L.gx K c) X W (compareOp .Eq) (oEq (run n)) := ops_eq cc (hu_of hr) (ops_eqOwn cc (hu_of hr) (fun ci g h => by
    unfold dEq at h
    split at h
    · cases h; exact unS c 0 34 rfl rfl (fns_cal cc (ih.1 7 rfl rfl) (hr.mono (Nat.le_succ _))) cc.k
    · cases h))
theorem oNe_ok (cc : Cc (L.gx K c) X W) (hr : Room (lv n + 1) X.A) (ih : IH c X.prog X.w X.mg X.base n) : OpS (L.gx K c) X W (compareOp .NotEq) (oNe (run n)) := ops_ne cc (hu_of hr) (ops_neOwn cc (hu_of hr) (fun ci g h => by
    unfold dEq at h
    split at h
    · cases h; exact neS c 0 35 rfl rfl (ih.1 7 rfl rfl) hr cc.k
    · cases h))
theorem dCall_ok (cc : Cc (L.gx K c) X W) (hr : Room (lv n + 1) X.A) (ih : IH c X.prog X.w X.mg X.base n) : ∀ ci g, dCall (run n) ci = some g → CallOS (L.gx K c) X ci g := fun ci g h => by
    unfold dCall at h
    split at h
    · cases h; exact callS c 0 36 rfl rfl (ih.1 3 rfl rfl) (hr.mono (Nat.le_succ _)) cc.k
    · cases h
theorem me_parts_ok (cc : Cc (L.gx K c) X W) (hr : Room (lv n + 1) X.A) (ih : IH c X.prog X.w X.mg X.base n) : ∀ ci g, me_parts (run n) ci = some g → MethS (L.gx K c) X W "parts" ci g := fun ci g h => by
    unfold me_parts at h
    split at h
    · cases h; exact methS c 0 30 rfl rfl (fns_cal cc (ih.1 2 rfl rfl) (hr.mono (Nat.le_succ _))) cc.k
    · cases h
theorem at_form_f (cc : Cc (L.gx K c) X W) : ∀ ci, at_form (run n) ci = some none → FieldS (L.gx K c) X "form" ci := fun ci h => by
    unfold at_form at h
    split at h
    · exact fieldS c 0 29 rfl rfl cc.k
    · cases h
theorem at_form_p (cc : Cc (L.gx K c) X W) (hr : Room (lv n + 1) X.A) (ih : IH c X.prog X.w X.mg X.base n) : ∀ ci g, at_form (run n) ci = some (some g) → PropS (L.gx K c) X "form" ci g := fun ci g h => by
    unfold at_form at h
    split at h
    · cases h
    · cases h
theorem st_form_ok (cc : Cc (L.gx K c) X W) : ∀ ci, st_form ci = true → FieldS (L.gx K c) X "form" ci := fun ci h => by
    unfold st_form at h
    split at h
    · exact fieldS c 0 29 rfl rfl cc.k
    · cases h
variable {P : Program} {w : World} {mg : Str → Option Value} {base : Heap}
theorem sc_0 : FnScope ["self", "name"] ["self", "name"] (defScope s_0) := ⟨rfl, rfl, rfl, by decide +kernel, rfl, by decide +kernel, by decide +kernel⟩
theorem xi_0 {c : L.Says K} : XInit P w K mg base "UnknownName" "name" := by
  obtain ⟨M⟩ := c.fn 0 rfl
  have hv : M.dvs = [] := List.eq_nil_of_length_eq_zero (by rw [← (M.rd ⟨[], []⟩ fun _ => none).length]; rfl)
  exact ⟨M.fd, ["self", "name"], xi_ok (K := K) (k := 0) M.F sc_0 (Or.inl rfl) (Or.inl rfl), FunD.bindsN (K := K) (ps := ["self", "name"]) (hv ▸ M.F) fun _ _ _ _ _ _ us hl => match us, hl with | [_, _], _ => rfl⟩
abbrev N_1 : List Str := ["self", "form"]
theorem sc_1 : FnScope N_1 ["self", "form"] (defScope s_1) := ⟨rfl, rfl, rfl, by decide +kernel, rfl, by decide +kernel, by decide +kernel⟩
theorem ok_1 (NS : Ns K mg) (n : Nat) (ih : IH c P w mg base n) (M : FnM (L.gx K c) ⟨.m "Condition" "__init__", "__init__", "Condition.__init__", s_1, []⟩) : FnOk P w (L.gx K c).K mg base (L2.CX P w) (lv n + 1 + 1) ((.m "Condition" "__init__" : Pth).ad (L.gx K c).K) M.fd ["self", "form"] (spF (L.gx K c) (bodyRun N_1.length (m_1 (run n))) (["self", "form"] : List Str).length) := by
  refine fnd_ok (G := L.gx K c) (k := lv n + 1) (ms := m_1 (run n)) M.F sc_1 fun cdv A outer s H E hr cc => ?_
  exact sss_one (ss_fld cc (se_var 0) (se_var 1) rfl (st_form_ok cc))
theorem cal_1 (NS : Ns K mg) (n : Nat) (ih : IH c P w mg base n) : Cal (L.gx K c) P w mg base (lv (n + 1)) ((.m "Condition" "__init__" : Pth).ad K) (run (n + 1) 1) := by
  obtain ⟨M⟩ := c.fn 1 rfl
  have hv : M.dvs = [] := List.eq_nil_of_length_eq_zero (by rw [← (M.rd ⟨[], []⟩ fun _ => none).length]; rfl)
  exact cal_defD (ok_1 NS n ih M) rfl (fun j hj => ⟨[], by rw [hv]; cases j <;> exact .nil, FunD.bindsN (ps := ["self", "form"]) (hv ▸ M.F) fun _ _ _ _ _ _ us hl => match us, hl with | [_, _], _ => rfl⟩) M.rd
abbrev N_2 : List Str := ["self"]
theorem sc_2 : FnScope N_2 ["self"] (defScope s_2) := ⟨rfl, rfl, rfl, by decide +kernel, rfl, by decide +kernel, by decide +kernel⟩
theorem ok_2 (NS : Ns K mg) (n : Nat) (ih : IH c P w mg base n) (M : FnM (L.gx K c) ⟨.m "Condition" "parts", "parts", "Condition.parts", s_2, []⟩) : FnOk P w (L.gx K c).K mg base (L2.CX P w) (lv n + 1 + 1) ((.m "Condition" "parts" : Pth).ad (L.gx K c).K) M.fd ["self"] (spF (L.gx K c) (bodyRun N_2.length (m_2 (run n))) (["self"] : List Str).length) := by
  refine fnd_ok (G := L.gx K c) (k := lv n + 1) (ms := m_2 (run n)) M.F sc_2 fun cdv A outer s H E hr cc => ?_
  exact sss_one (ss_ret (se_attr cc (se_var 0) rfl (at_form_f cc) (at_form_p cc hr ih)))
theorem cal_2 (NS : Ns K mg) (n : Nat) (ih : IH c P w mg base n) : Cal (L.gx K c) P w mg base (lv (n + 1)) ((.m "Condition" "parts" : Pth).ad K) (run (n + 1) 2) := by
  obtain ⟨M⟩ := c.fn 2 rfl
  have hv : M.dvs = [] := List.eq_nil_of_length_eq_zero (by rw [← (M.rd ⟨[], []⟩ fun _ => none).length]; rfl)
  exact cal_defD (ok_2 NS n ih M) rfl (fun j hj => ⟨[], by rw [hv]; cases j <;> exact .nil, FunD.bindsN (ps := ["self"]) (hv ▸ M.F) fun _ _ _ _ _ _ us hl => match us, hl with | [_], _ => rfl⟩) M.rd
abbrev N_3 : List Str := ["self", "row", "one", "other", "word", "value"]
theorem sc_3 : FnScope N_3 ["self", "row"] (defScope s_3) := ⟨rfl, rfl, rfl, by decide +kernel, rfl, by decide +kernel, by decide +kernel⟩
theorem ok_3 (NS : Ns K mg) (n : Nat) (ih : IH c P w mg base n) (M : FnM (L.gx K c) ⟨.m "Condition" "__call__", "__call__", "Condition.__call__", s_3, []⟩) : FnOk P w (L.gx K c).K mg base (L2.CX P w) (lv n + 1 + 1) ((.m "Condition" "__call__" : Pth).ad (L.gx K c).K) M.fd ["self", "row"] (spF (L.gx K c) (bodyRun N_3.length (m_3 (run n))) (["self", "row"] : List Str).length) := by
  refine fnd_ok (G := L.gx K c) (k := lv n + 1) (ms := m_3 (run n)) M.F sc_3 fun cdv A outer s H E hr cc => ?_
  exact sss_one (ss_matchP (se_attr cc (se_var 0) rfl (at_form_f cc) (at_form_p cc hr ih)) (spcs_cons cc (spt_val (ops_eq cc (hu_of hr) noOwn_ok) (se_str [97, 110, 121]) (spt_nil)) (sss_one (ss_ret (se_bl))) (spcs_cons cc (spt_val (ops_eq cc (hu_of hr) noOwn_ok) (se_str [110, 111, 116]) (spt_cap (i := 2) rfl (by first | exact Or.inl rfl | exact Or.inr rfl) (by first | exact Or.inl rfl | exact Or.inr rfl) (spt_nil))) (sss_one (ss_ret (se_not (se_callI cc (se_var 2) (dCall_ok cc hr ih) (sa_cons (se_var 1) (sa_nil)))))) (spcs_cons cc (spt_val (ops_eq cc (hu_of hr) noOwn_ok) (se_str [97, 110, 100]) (spt_cap (i := 2) rfl (by first | exact Or.inl rfl | exact Or.inr rfl) (by first | exact Or.inl rfl | exact Or.inr rfl) (spt_cap (i := 3) rfl (by first | exact Or.inl rfl | exact Or.inr rfl) (by first | exact Or.inl rfl | exact Or.inr rfl) (spt_nil)))) (sss_one (ss_ret (se_and (se_callI cc (se_var 2) (dCall_ok cc hr ih) (sa_cons (se_var 1) (sa_nil))) (se_one (se_callI cc (se_var 3) (dCall_ok cc hr ih) (sa_cons (se_var 1) (sa_nil))))))) (spcs_cons cc (spt_val (ops_eq cc (hu_of hr) noOwn_ok) (se_str [111, 114]) (spt_cap (i := 2) rfl (by first | exact Or.inl rfl | exact Or.inr rfl) (by first | exact Or.inl rfl | exact Or.inr rfl) (spt_cap (i := 3) rfl (by first | exact Or.inl rfl | exact Or.inr rfl) (by first | exact Or.inl rfl | exact Or.inr rfl) (spt_nil)))) (sss_one (ss_ret (se_or (se_callI cc (se_var 2) (dCall_ok cc hr ih) (sa_cons (se_var 1) (sa_nil))) (se_one (se_callI cc (se_var 3) (dCall_ok cc hr ih) (sa_cons (se_var 1) (sa_nil))))))) (spcs_cons cc (spt_cap (i := 4) rfl (by first | exact Or.inl rfl | exact Or.inr rfl) (by first | exact Or.inl rfl | exact Or.inr rfl) (spt_cap (i := 5) rfl (by first | exact Or.inl rfl | exact Or.inr rfl) (by first | exact Or.inl rfl | exact Or.inr rfl) (spt_nil))) (sss_one (ss_ret (se_cmp (oEq_ok cc hr ih) (se_ix (ixs_item cc) (se_var 1) (se_kidx (ds := [[107, 105, 110, 100], [108, 101, 118, 101, 108], [97, 99, 99, 101, 115, 115], [111, 116, 104, 101, 114], [97, 114, 114, 97, 121], [119, 111, 114, 100]]) 1 2 cc NS rfl rfl rfl (se_var 4))) (se_var 5)))) (spcs_nil) (by decide)) (by decide)) (by decide)) (by decide)) (by decide)))
theorem cal_3 (NS : Ns K mg) (n : Nat) (ih : IH c P w mg base n) : Cal (L.gx K c) P w mg base (lv (n + 1)) ((.m "Condition" "__call__" : Pth).ad K) (run (n + 1) 3) := by
  obtain ⟨M⟩ := c.fn 3 rfl
  have hv : M.dvs = [] := List.eq_nil_of_length_eq_zero (by rw [← (M.rd ⟨[], []⟩ fun _ => none).length]; rfl)
  exact cal_defD (ok_3 NS n ih M) rfl (fun j hj => ⟨[], by rw [hv]; cases j <;> exact .nil, FunD.bindsN (ps := ["self", "row"]) (hv ▸ M.F) fun _ _ _ _ _ _ us hl => match us, hl with | [_, _], _ => rfl⟩) M.rd
abbrev N_4 : List Str := ["self", "other"]
theorem sc_4 : FnScope N_4 ["self", "other"] (defScope s_4) := ⟨rfl, rfl, rfl, by decide +kernel, rfl, by decide +kernel, by decide +kernel⟩
theorem ok_4 (NS : Ns K mg) (n : Nat) (ih : IH c P w mg base n) (M : FnM (L.gx K c) ⟨.m "Condition" "__and__", "__and__", "Condition.__and__", s_4, []⟩) : FnOk P w (L.gx K c).K mg base (L2.CX P w) (lv n + 1 + 1) ((.m "Condition" "__and__" : Pth).ad (L.gx K c).K) M.fd ["self", "other"] (spF (L.gx K c) (bodyRun N_4.length (m_4 (run n))) (["self", "other"] : List Str).length) := by
  refine fnd_ok (G := L.gx K c) (k := lv n + 1) (ms := m_4 (run n)) M.F sc_4 fun cdv A outer s H E hr cc => ?_
  exact sss_one (ss_ret (se_call (fns_make cc (cls_of c 0 rfl) (mk_of c 4 rfl) (ih.1 1 rfl rfl) hr) rfl (NS.glo c 3) (keep_of c 3) (sa_cons (se_tup (sa_cons (se_str [97, 110, 100]) (sa_cons (se_var 0) (sa_cons (se_var 1) (sa_nil)))) (szl rfl)) (sa_nil))))
theorem cal_4 (NS : Ns K mg) (n : Nat) (ih : IH c P w mg base n) : Cal (L.gx K c) P w mg base (lv (n + 1)) ((.m "Condition" "__and__" : Pth).ad K) (run (n + 1) 4) := by
  obtain ⟨M⟩ := c.fn 4 rfl
  have hv : M.dvs = [] := List.eq_nil_of_length_eq_zero (by rw [← (M.rd ⟨[], []⟩ fun _ => none).length]; rfl)
  exact cal_defD (ok_4 NS n ih M) rfl (fun j hj => ⟨[], by rw [hv]; cases j <;> exact .nil, FunD.bindsN (ps := ["self", "other"]) (hv ▸ M.F) fun _ _ _ _ _ _ us hl => match us, hl with | [_, _], _ => rfl⟩) M.rd
abbrev N_5 : List Str := ["self", "other"]
theorem sc_5 : FnScope N_5 ["self", "other"] (defScope s_5) := ⟨rfl, rfl, rfl, by decide +kernel, rfl, by decide +kernel, by decide +kernel⟩
theorem ok_5 (NS : Ns K mg) (n : Nat) (ih : IH c P w mg base n) (M : FnM (L.gx K c) ⟨.m "Condition" "__or__", "__or__", "Condition.__or__", s_5, []⟩) : FnOk P w (L.gx K c).K mg base (L2.CX P w) (lv n + 1 + 1) ((.m "Condition" "__or__" : Pth).ad (L.gx K c).K) M.fd ["self", "other"] (spF (L.gx K c) (bodyRun N_5.length (m_5 (run n))) (["self", "other"] : List Str).length) := by
  refine fnd_ok (G := L.gx K c) (k := lv n + 1) (ms := m_5 (run n)) M.F sc_5 fun cdv A outer s H E hr cc => ?_
  exact sss_one (ss_ret (se_call (fns_make cc (cls_of c 0 rfl) (mk_of c 4 rfl) (ih.1 1 rfl rfl) hr) rfl (NS.glo c 3) (keep_of c 3) (sa_cons (se_tup (sa_cons (se_str [111, 114]) (sa_cons (se_var 0) (sa_cons (se_var 1) (sa_nil)))) (szl rfl)) (sa_nil))))
theorem cal_5 (NS : Ns K mg) (n : Nat) (ih : IH c P w mg base n) : Cal (L.gx K c) P w mg base (lv (n + 1)) ((.m "Condition" "__or__" : Pth).ad K) (run (n + 1) 5) := by
  obtain ⟨M⟩ := c.fn 5 rfl
  have hv : M.dvs = [] := List.eq_nil_of_length_eq_zero (by rw [← (M.rd ⟨[], []⟩ fun _ => none).length]; rfl)
  exact cal_defD (ok_5 NS n ih M) rfl (fun j hj => ⟨[], by rw [hv]; cases j <;> exact .nil, FunD.bindsN (ps := ["self", "other"]) (hv ▸ M.F) fun _ _ _ _ _ _ us hl => match us, hl with | [_, _], _ => rfl⟩) M.rd
abbrev N_6 : List Str := ["self"]
theorem sc_6 : FnScope N_6 ["self"] (defScope s_6) := ⟨rfl, rfl, rfl, by decide +kernel, rfl, by decide +kernel, by decide +kernel⟩
theorem ok_6 (NS : Ns K mg) (n : Nat) (ih : IH c P w mg base n) (M : FnM (L.gx K c) ⟨.m "Condition" "__invert__", "__invert__", "Condition.__invert__", s_6, []⟩) : FnOk P w (L.gx K c).K mg base (L2.CX P w) (lv n + 1 + 1) ((.m "Condition" "__invert__" : Pth).ad (L.gx K c).K) M.fd ["self"] (spF (L.gx K c) (bodyRun N_6.length (m_6 (run n))) (["self"] : List Str).length) := by
  refine fnd_ok (G := L.gx K c) (k := lv n + 1) (ms := m_6 (run n)) M.F sc_6 fun cdv A outer s H E hr cc => ?_
  exact sss_one (ss_ret (se_call (fns_make cc (cls_of c 0 rfl) (mk_of c 4 rfl) (ih.1 1 rfl rfl) hr) rfl (NS.glo c 3) (keep_of c 3) (sa_cons (se_tup (sa_cons (se_str [110, 111, 116]) (sa_cons (se_var 0) (sa_nil))) (szl rfl)) (sa_nil))))
theorem cal_6 (NS : Ns K mg) (n : Nat) (ih : IH c P w mg base n) : Cal (L.gx K c) P w mg base (lv (n + 1)) ((.m "Condition" "__invert__" : Pth).ad K) (run (n + 1) 6) := by
  obtain ⟨M⟩ := c.fn 6 rfl
  have hv : M.dvs = [] := List.eq_nil_of_length_eq_zero (by rw [← (M.rd ⟨[], []⟩ fun _ => none).length]; rfl)
  exact cal_defD (ok_6 NS n ih M) rfl (fun j hj => ⟨[], by rw [hv]; cases j <;> exact .nil, FunD.bindsN (ps := ["self"]) (hv ▸ M.F) fun _ _ _ _ _ _ us hl => match us, hl with | [_], _ => rfl⟩) M.rd
abbrev N_7 : List Str := ["self", "other"]
theorem sc_7 : FnScope N_7 ["self", "other"] (defScope s_7) := ⟨rfl, rfl, rfl, by decide +kernel, rfl, by decide +kernel, by decide +kernel⟩
theorem ok_7 (NS : Ns K mg) (n : Nat) (ih : IH c P w mg base n) (M : FnM (L.gx K c) ⟨.m "Condition" "__eq__", "__eq__", "Condition.__eq__", s_7, []⟩) : FnOk P w (L.gx K c).K mg base (L2.CX P w) (lv n + 1 + 1) ((.m "Condition" "__eq__" : Pth).ad (L.gx K c).K) M.fd ["self", "other"] (spF (L.gx K c) (bodyRun N_7.length (m_7 (run n))) (["self", "other"] : List Str).length) := by
  refine fnd_ok (G := L.gx K c) (k := lv n + 1) (ms := m_7 (run n)) M.F sc_7 fun cdv A outer s H E hr cc => ?_
  exact sss_one (ss_ret (se_and (se_callB (fns_isi cc) rfl (NS.free c 5) (by decide +kernel) (sa_cons (se_var 1) (sa_cons (se_cls rfl (NS.glo c 3) (cls_of c 0 rfl)) (sa_nil)))) (se_one (se_cmp (oEq_ok cc hr ih) (se_attr cc (se_var 0) rfl (at_form_f cc) (at_form_p cc hr ih)) (se_attr cc (se_var 1) rfl (at_form_f cc) (at_form_p cc hr ih))))))
theorem cal_7 (NS : Ns K mg) (n : Nat) (ih : IH c P w mg base n) : Cal (L.gx K c) P w mg base (lv (n + 1)) ((.m "Condition" "__eq__" : Pth).ad K) (run (n + 1) 7) := by
  obtain ⟨M⟩ := c.fn 7 rfl
  have hv : M.dvs = [] := List.eq_nil_of_length_eq_zero (by rw [← (M.rd ⟨[], []⟩ fun _ => none).length]; rfl)
  exact cal_defD (ok_7 NS n ih M) rfl (fun j hj => ⟨[], by rw [hv]; cases j <;> exact .nil, FunD.bindsN (ps := ["self", "other"]) (hv ▸ M.F) fun _ _ _ _ _ _ us hl => match us, hl with | [_, _], _ => rfl⟩) M.rd
abbrev N_8 : List Str := ["wanted", "found", "word", "atom"]
theorem sc_8 : FnScope N_8 ["wanted"] (defScope s_8) := ⟨rfl, rfl, rfl, by decide +kernel, rfl, by decide +kernel, by decide +kernel⟩
theorem ok_8 (NS : Ns K mg) (n : Nat) (ih : IH c P w mg base n) : ∀ kn ∈ kwl_0, CalK (L.gx K c) P w mg base (lv n + 1 + 1) (He.ga K "where") kn (bodyRun N_8.length (m_8 (run n))) := by
  obtain ⟨M⟩ := c.fn 8 rfl
  have hv : M.dvs = [] := List.eq_nil_of_length_eq_zero (by rw [← (M.rd ⟨[], []⟩ fun _ => none).length]; rfl)
  have go : ∀ (cdv : Value) (A : Around) (outer : List Env) (s : Shared) (H : Hp) (E : XK), Room (lv n + 1) (A.deeper (envOfC "where" (defScope s_8) s.heap.objs.size (He.ga K "where") cdv)) → Cc (L.gx K c) (cxOf (L2.CX P w) P w (L.gx K c).K mg base N_8 "where" (defScope s_8) (He.ga K "where") cdv A outer s H E) (WF E) → SSs (L.gx K c) (cxOf (L2.CX P w) P w (L.gx K c).K mg base N_8 "where" (defScope s_8) (He.ga K "where") cdv A outer s H E) (WF E) (defBody s_8) (m_8 (run n)) := fun cdv A outer s H E hr cc => sss_cons (ss_set (i := 1) cc.nd rfl (by first | exact Or.inl rfl | exact Or.inr rfl) (se_non))
    (sss_cons (ss_lockX 0 (ss_for 1000 cc (si_ky (se_var 0)) (sg_name cc.nd rfl (by first | exact Or.inl rfl | exact Or.inr rfl)) (sss_cons (ss_if (st_cmp (ops_notIn cc) (se_var 2) (se_con c NS 1 rfl rfl)) (sss_one (ss_raiseL 1 1 6 7 8 cc NS rfl rfl rfl rfl rfl (xi_0 (c := c)) (hr.mono (two_le _)) rfl (se_var 2))) (sss_nil))
    (sss_cons (ss_set (i := 3) cc.nd rfl (by first | exact Or.inl rfl | exact Or.inr rfl) (se_call (fns_make cc (cls_of c 0 rfl) (mk_of c 4 rfl) (ih.1 1 rfl rfl) hr) rfl (NS.glo c 3) (keep_of c 3) (sa_cons (se_tup (sa_cons (se_var 2) (sa_cons (se_dgetL (hu_of hr) (se_var 0) (se_var 2)) (sa_nil))) (szl rfl)) (sa_nil))))
    (sss_one (ss_set (i := 1) cc.nd rfl (by first | exact Or.inl rfl | exact Or.inr rfl) (se_if (st_cmp ops_is (se_var 1) (se_non)) (se_var 3) (se_bin (oBitAnd_ok cc hr ih) (se_var 1) (se_var 3)))))))))
    (sss_one (ss_ret (se_if (st_cmp ops_is (se_var 1) (se_non)) (se_call (fns_make cc (cls_of c 0 rfl) (mk_of c 4 rfl) (ih.1 1 rfl rfl) hr) rfl (NS.glo c 3) (keep_of c 3) (sa_cons (se_tup (sa_cons (se_str [97, 110, 121]) (sa_nil)) (szl rfl)) (sa_nil))) (se_var 1)))))
  exact List.forall_mem_cons.2 ⟨calK_of (kn := [[107, 105, 110, 100]]) (hv ▸ M.F) sc_8 (by decide +kernel) (by decide) (fun _ _ _ _ _ _ us hl => match us, hl with | [_], _ => by kernel_rfl) go, List.forall_mem_cons.2 ⟨calK_of (kn := [[108, 101, 118, 101, 108]]) (hv ▸ M.F) sc_8 (by decide +kernel) (by decide) (fun _ _ _ _ _ _ us hl => match us, hl with | [_], _ => by kernel_rfl) go, List.forall_mem_cons.2 ⟨calK_of (kn := [[97, 99, 99, 101, 115, 115]]) (hv ▸ M.F) sc_8 (by decide +kernel) (by decide) (fun _ _ _ _ _ _ us hl => match us, hl with | [_], _ => by kernel_rfl) go, List.forall_mem_cons.2 ⟨calK_of (kn := [[111, 116, 104, 101, 114]]) (hv ▸ M.F) sc_8 (by decide +kernel) (by decide) (fun _ _ _ _ _ _ us hl => match us, hl with | [_], _ => by kernel_rfl) go, List.forall_mem_cons.2 ⟨calK_of (kn := [[97, 114, 114, 97, 121]]) (hv ▸ M.F) sc_8 (by decide +kernel) (by decide) (fun _ _ _ _ _ _ us hl => match us, hl with | [_], _ => by kernel_rfl) go, List.forall_mem_cons.2 ⟨calK_of (kn := [[119, 111, 114, 100]]) (hv ▸ M.F) sc_8 (by decide +kernel) (by decide) (fun _ _ _ _ _ _ us hl => match us, hl with | [_], _ => by kernel_rfl) go, List.forall_mem_cons.2 ⟨calK_of (kn := []) (hv ▸ M.F) sc_8 (by decide +kernel) (by decide) (fun _ _ _ _ _ _ us hl => match us, hl with | [], _ => by kernel_rfl) go, List.forall_mem_cons.2 ⟨calK_of (kn := [[107, 105, 110, 100], [97, 114, 114, 97, 121], [108, 101, 118, 101, 108]]) (hv ▸ M.F) sc_8 (by decide +kernel) (by decide) (fun _ _ _ _ _ _ us hl => match us, hl with | [_, _, _], _ => by kernel_rfl) go, List.forall_mem_cons.2 ⟨calK_of (kn := [[97, 99, 99, 101, 115, 115], [119, 111, 114, 100]]) (hv ▸ M.F) sc_8 (by decide +kernel) (by decide) (fun _ _ _ _ _ _ us hl => match us, hl with | [_, _], _ => by kernel_rfl) go, List.forall_mem_cons.2 ⟨calK_of (kn := [[108, 101, 118, 101, 108, 115]]) (hv ▸ M.F) sc_8 (by decide +kernel) (by decide) (fun _ _ _ _ _ _ us hl => match us, hl with | [_], _ => by kernel_rfl) go, List.forall_mem_cons.2 ⟨calK_of (kn := [[108, 101, 118, 101, 108], [116, 111, 116, 97, 108]]) (hv ▸ M.F) sc_8 (by decide +kernel) (by decide) (fun _ _ _ _ _ _ us hl => match us, hl with | [_, _], _ => by kernel_rfl) go, List.forall_mem_cons.2 ⟨calK_of (kn := [[101, 118, 101, 114, 121], [107, 105, 110, 100]]) (hv ▸ M.F) sc_8 (by decide +kernel) (by decide) (fun _ _ _ _ _ _ us hl => match us, hl with | [_, _], _ => by kernel_rfl) go, List.forall_mem_cons.2 ⟨calK_of (kn := [[108, 101, 118, 101, 108], [107, 105, 110, 100], [115, 112, 111, 116]]) (hv ▸ M.F) sc_8 (by decide +kernel) (by decide) (fun _ _ _ _ _ _ us hl => match us, hl with | [_, _, _], _ => by kernel_rfl) go, fun _ h => (List.not_mem_nil h).elim⟩⟩⟩⟩⟩⟩⟩⟩⟩⟩⟩⟩⟩
abbrev N_9 : List Str := ["_law_script", "_law_k", "_law_cell", "_law_heavy", "_law_blend", "_law_seed"]
theorem sc_9 : FnScope N_9 ["_law_script", "_law_k"] (defScope s_9) := ⟨rfl, rfl, rfl, by decide +kernel, rfl, by decide +kernel, by decide +kernel⟩
theorem ok_9 (NS : Ns K mg) (n : Nat) (ih : IH c P w mg base n) (M : FnM (L.gx K c) ⟨.g "_law_pool", "_law_pool", "_law_pool", s_9, []⟩) : FnOk P w (L.gx K c).K mg base (L2.CX P w) (lv n + 1 + 1) ((.g "_law_pool" : Pth).ad (L.gx K c).K) M.fd ["_law_script", "_law_k"] (spF (L.gx K c) (bodyRun N_9.length (m_9 (run n))) (["_law_script", "_law_k"] : List Str).length) := by
  refine fnd_ok (G := L.gx K c) (k := lv n + 1) (ms := m_9 (run n)) M.F sc_9 fun cdv A outer s H E hr cc => ?_
  exact sss_cons (ss_set (i := 2) cc.nd rfl (by first | exact Or.inl rfl | exact Or.inr rfl) (se_int))
    (sss_cons (ss_if (st_cmp ops_lt (se_var 1) (se_callB (fns_len cc) rfl (NS.free c 9) (by decide +kernel) (sa_cons (se_var 0) (sa_nil)))) (sss_one (ss_set (i := 2) cc.nd rfl (by first | exact Or.inl rfl | exact Or.inr rfl) (se_ix (ixs_item cc) (se_var 0) (se_var 1)))) (sss_nil))
    (sss_cons (ss_set (i := 3) cc.nd rfl (by first | exact Or.inl rfl | exact Or.inr rfl) (se_callB (fns_abs) rfl (NS.free c 10) (by decide +kernel) (sa_cons (se_var 2) (sa_nil))))
    (sss_cons (ss_set (i := 4) cc.nd rfl (by first | exact Or.inl rfl | exact Or.inr rfl) (se_bin ops_mod (se_bin (oMul_ok cc hr ih) (se_callTy (fns_int) rfl (NS.free c 11) (by decide +kernel) (sa_cons (se_bin (oAdd_ok cc hr ih) (se_bin ops_mod (se_callTy (fns_int) rfl (NS.free c 11) (by decide +kernel) (sa_cons (se_var 2) (sa_nil))) (se_int)) (se_bin (oMul_ok cc hr ih) (se_int) (se_bin (oAdd_ok cc hr ih) (se_var 1) (se_int)))) (sa_nil))) (se_bin (oAdd_ok cc hr ih) (se_var 1) (se_int))) (se_int)))
    (sss_cons (ss_set (i := 5) cc.nd rfl (by first | exact Or.inl rfl | exact Or.inr rfl) (se_bin ops_mod (se_bin (oMul_ok cc hr ih) (se_bin ops_mod (se_callTy (fns_int) rfl (NS.free c 11) (by decide +kernel) (sa_cons (se_bin (oMul_ok cc hr ih) (se_var 4) (se_var 4)) (sa_nil))) (se_int)) (se_int)) (se_int)))
    (sss_one (ss_ret (se_lst (sa_cons (se_bin (oMul_ok cc hr ih) (se_var 3) (se_callTy (fns_int) rfl (NS.free c 11) (by decide +kernel) (sa_cons (se_cmp ops_ge (se_var 3) (se_bin ops_pow (se_int) (se_int))) (sa_nil)))) (sa_cons (se_var 5) (sa_nil))) (szl rfl))))))))
theorem cal_9 (NS : Ns K mg) (n : Nat) (ih : IH c P w mg base n) : Cal (L.gx K c) P w mg base (lv (n + 1)) ((.g "_law_pool" : Pth).ad K) (run (n + 1) 9) := by
  obtain ⟨M⟩ := c.fn 9 rfl
  have hv : M.dvs = [] := List.eq_nil_of_length_eq_zero (by rw [← (M.rd ⟨[], []⟩ fun _ => none).length]; rfl)
  exact cal_defD (ok_9 NS n ih M) rfl (fun j hj => ⟨[], by rw [hv]; cases j <;> exact .nil, FunD.bindsN (ps := ["_law_script", "_law_k"]) (hv ▸ M.F) fun _ _ _ _ _ _ us hl => match us, hl with | [_, _], _ => rfl⟩) M.rd
abbrev N_10 : List Str := ["_law_pool_here", "_law_wide", "_law_result"]
theorem sc_10 : FnScope N_10 ["_law_pool_here", "_law_wide"] (defScope s_10) := ⟨rfl, rfl, rfl, by decide +kernel, rfl, by decide +kernel, by decide +kernel⟩
theorem ok_10 (NS : Ns K mg) (n : Nat) (ih : IH c P w mg base n) (M : FnM (L.gx K c) ⟨.g "_law_take", "_law_take", "_law_take", s_10, []⟩) : FnOk P w (L.gx K c).K mg base (L2.CX P w) (lv n + 1 + 1) ((.g "_law_take" : Pth).ad (L.gx K c).K) M.fd ["_law_pool_here", "_law_wide"] (spF (L.gx K c) (bodyRun N_10.length (m_10 (run n))) (["_law_pool_here", "_law_wide"] : List Str).length) := by
  refine fnd_ok (G := L.gx K c) (k := lv n + 1) (ms := m_10 (run n)) M.F sc_10 fun cdv A outer s H E hr cc => ?_
  exact sss_cons (ss_if (st_cmp ops_gt (se_ix (ixs_item cc) (se_var 0) (se_int)) (se_int)) (sss_cons (ss_set (i := 2) cc.nd rfl (by first | exact Or.inl rfl | exact Or.inr rfl) (se_bin ops_mod (se_callTy (fns_int) rfl (NS.free c 11) (by decide +kernel) (sa_cons (se_ix (ixs_item cc) (se_var 0) (se_int)) (sa_nil))) (se_var 1)))
    (sss_cons (ss_asg (se_bin ops_div (se_ix (ixs_item cc) (se_var 0) (se_int)) (se_var 1)) (sg_sub (W := WF E) (se_var 0) (se_int) sts_list))
    (sss_one (ss_ret (se_var 2))))) (sss_nil))
    (sss_cons (ss_asg (se_bin ops_mod (se_callTy (fns_int) rfl (NS.free c 11) (by decide +kernel) (sa_cons (se_bin (oAdd_ok cc hr ih) (se_bin (oMul_ok cc hr ih) (se_ix (ixs_item cc) (se_var 0) (se_int)) (se_int)) (se_int)) (sa_nil))) (se_int)) (sg_sub (W := WF E) (se_var 0) (se_int) sts_list))
    (sss_one (ss_ret (se_bin ops_mod (se_bin ops_div (se_bin ops_mod (se_callTy (fns_int) rfl (NS.free c 11) (by decide +kernel) (sa_cons (se_bin (oMul_ok cc hr ih) (se_ix (ixs_item cc) (se_var 0) (se_int)) (se_ix (ixs_item cc) (se_var 0) (se_int))) (sa_nil))) (se_int)) (se_int)) (se_var 1)))))
theorem cal_10 (NS : Ns K mg) (n : Nat) (ih : IH c P w mg base n) : Cal (L.gx K c) P w mg base (lv (n + 1)) ((.g "_law_take" : Pth).ad K) (run (n + 1) 10) := by
  obtain ⟨M⟩ := c.fn 10 rfl
  have hv : M.dvs = [] := List.eq_nil_of_length_eq_zero (by rw [← (M.rd ⟨[], []⟩ fun _ => none).length]; rfl)
  exact cal_defD (ok_10 NS n ih M) rfl (fun j hj => ⟨[], by rw [hv]; cases j <;> exact .nil, FunD.bindsN (ps := ["_law_pool_here", "_law_wide"]) (hv ▸ M.F) fun _ _ _ _ _ _ us hl => match us, hl with | [_, _], _ => rfl⟩) M.rd
abbrev N_11 : List Str := ["_law_pool_here", "_law_kinds", "_law_some"]
theorem sc_11 : FnScope N_11 ["_law_pool_here"] (defScope s_11) := ⟨rfl, rfl, rfl, by decide +kernel, rfl, by decide +kernel, by decide +kernel⟩
theorem ok_11 (NS : Ns K mg) (n : Nat) (ih : IH c P w mg base n) (M : FnM (L.gx K c) ⟨.g "_law_atoms", "_law_atoms", "_law_atoms", s_11, []⟩) : FnOk P w (L.gx K c).K mg base (L2.CX P w) (lv n + 1 + 1) ((.g "_law_atoms" : Pth).ad (L.gx K c).K) M.fd ["_law_pool_here"] (spF (L.gx K c) (bodyRun N_11.length (m_11 (run n))) (["_law_pool_here"] : List Str).length) := by
  refine fnd_ok (G := L.gx K c) (k := lv n + 1) (ms := m_11 (run n)) M.F sc_11 fun cdv A outer s H E hr cc => ?_
  exact sss_cons (ss_par (i := 1) (j := 2) cc.calm cc.nd rfl rfl (by decide) rfl rfl (sa_cons (se_lv (sa_cons (se_str [104, 105, 116]) (sa_cons (se_str [109, 105, 115, 115]) (sa_cons (se_str [99, 114, 111, 119, 100, 101, 100]) (sa_cons (se_str [98, 97, 99, 107]) (sa_cons (se_str [116, 104, 114, 111, 119, 110]) (sa_nil)))))) (szl rfl)) (sa_cons (se_lst (sa_nil) (szl rfl)) (sa_nil))))
    (sss_cons (ss_expr (se_bm PySem.F.plainAttrs_list PySem.F.slot_list_append PySem.F.type_list_append mts_append (ck_list cc) (se_var 2) (sa_cons (se_tup (sa_cons (se_str [107, 105, 110, 100]) (sa_cons (se_ix (ixs_item cc) (se_var 1) (se_call (fns_cal cc (ih.1 10 rfl rfl) (hr.mono (Nat.le_succ _))) rfl (NS.glo c 12) (keep_of c 12) (sa_cons (se_var 0) (sa_cons (se_int) (sa_nil))))) (sa_nil))) (szl rfl)) (sa_nil))))
    (sss_cons (ss_expr (se_bm PySem.F.plainAttrs_list PySem.F.slot_list_append PySem.F.type_list_append mts_append (ck_list cc) (se_var 2) (sa_cons (se_tup (sa_cons (se_str [108, 101, 118, 101, 108]) (sa_cons (se_call (fns_cal cc (ih.1 10 rfl rfl) (hr.mono (Nat.le_succ _))) rfl (NS.glo c 12) (keep_of c 12) (sa_cons (se_var 0) (sa_cons (se_int) (sa_nil)))) (sa_nil))) (szl rfl)) (sa_nil))))
    (sss_cons (ss_expr (se_bm PySem.F.plainAttrs_list PySem.F.slot_list_append PySem.F.type_list_append mts_append (ck_list cc) (se_var 2) (sa_cons (se_tup (sa_cons (se_str [97, 99, 99, 101, 115, 115]) (sa_cons (se_call (fns_cal cc (ih.1 10 rfl rfl) (hr.mono (Nat.le_succ _))) rfl (NS.glo c 12) (keep_of c 12) (sa_cons (se_var 0) (sa_cons (se_int) (sa_nil)))) (sa_nil))) (szl rfl)) (sa_nil))))
    (sss_cons (ss_expr (se_bm PySem.F.plainAttrs_list PySem.F.slot_list_append PySem.F.type_list_append mts_append (ck_list cc) (se_var 2) (sa_cons (se_tup (sa_cons (se_str [111, 116, 104, 101, 114]) (sa_cons (se_call (fns_cal cc (ih.1 10 rfl rfl) (hr.mono (Nat.le_succ _))) rfl (NS.glo c 12) (keep_of c 12) (sa_cons (se_var 0) (sa_cons (se_int) (sa_nil)))) (sa_nil))) (szl rfl)) (sa_nil))))
    (sss_cons (ss_expr (se_bm PySem.F.plainAttrs_list PySem.F.slot_list_append PySem.F.type_list_append mts_append (ck_list cc) (se_var 2) (sa_cons (se_tup (sa_cons (se_str [97, 114, 114, 97, 121]) (sa_cons (se_ix (ixs_item cc) (se_lv (sa_cons (se_str [97]) (sa_cons (se_str [98]) (sa_nil))) (szl rfl)) (se_call (fns_cal cc (ih.1 10 rfl rfl) (hr.mono (Nat.le_succ _))) rfl (NS.glo c 12) (keep_of c 12) (sa_cons (se_var 0) (sa_cons (se_int) (sa_nil))))) (sa_nil))) (szl rfl)) (sa_nil))))
    (sss_cons (ss_expr (se_bm PySem.F.plainAttrs_list PySem.F.slot_list_append PySem.F.type_list_append mts_append (ck_list cc) (se_var 2) (sa_cons (se_tup (sa_cons (se_str [119, 111, 114, 100]) (sa_cons (se_ix (ixs_item cc) (se_lv (sa_cons (se_str [114, 101, 97, 100]) (sa_cons (se_str [119, 114, 105, 116, 101]) (sa_nil))) (szl rfl)) (se_call (fns_cal cc (ih.1 10 rfl rfl) (hr.mono (Nat.le_succ _))) rfl (NS.glo c 12) (keep_of c 12) (sa_cons (se_var 0) (sa_cons (se_int) (sa_nil))))) (sa_nil))) (szl rfl)) (sa_nil))))
    (sss_one (ss_ret (se_bin (oAdd_ok cc hr ih) (se_var 2) (se_lv (sa_cons (se_tup (sa_cons (se_str [97, 110, 121]) (sa_nil)) (szl rfl)) (sa_nil)) (szl rfl)))))))))))
theorem cal_11 (NS : Ns K mg) (n : Nat) (ih : IH c P w mg base n) : Cal (L.gx K c) P w mg base (lv (n + 1)) ((.g "_law_atoms" : Pth).ad K) (run (n + 1) 11) := by
  obtain ⟨M⟩ := c.fn 11 rfl
  have hv : M.dvs = [] := List.eq_nil_of_length_eq_zero (by rw [← (M.rd ⟨[], []⟩ fun _ => none).length]; rfl)
  exact cal_defD (ok_11 NS n ih M) rfl (fun j hj => ⟨[], by rw [hv]; cases j <;> exact .nil, FunD.bindsN (ps := ["_law_pool_here"]) (hv ▸ M.F) fun _ _ _ _ _ _ us hl => match us, hl with | [_], _ => rfl⟩) M.rd
abbrev N_12 : List Str := ["_law_pool_here", "_law_depth", "_law_way"]
theorem sc_12 : FnScope N_12 ["_law_pool_here", "_law_depth"] (defScope s_12) := ⟨rfl, rfl, rfl, by decide +kernel, rfl, by decide +kernel, by decide +kernel⟩
theorem ok_12 (NS : Ns K mg) (n : Nat) (ih : IH c P w mg base n) (M : FnM (L.gx K c) ⟨.g "_law_form", "_law_form", "_law_form", s_12, []⟩) : FnOk P w (L.gx K c).K mg base (L2.CX P w) (lv n + 1 + 1) ((.g "_law_form" : Pth).ad (L.gx K c).K) M.fd ["_law_pool_here", "_law_depth"] (spF (L.gx K c) (bodyRun N_12.length (m_12 (run n))) (["_law_pool_here", "_law_depth"] : List Str).length) := by
  refine fnd_ok (G := L.gx K c) (k := lv n + 1) (ms := m_12 (run n)) M.F sc_12 fun cdv A outer s H E hr cc => ?_
  exact sss_cons (ss_set (i := 2) cc.nd rfl (by first | exact Or.inl rfl | exact Or.inr rfl) (se_call (fns_cal cc (ih.1 10 rfl rfl) (hr.mono (Nat.le_succ _))) rfl (NS.glo c 12) (keep_of c 12) (sa_cons (se_var 0) (sa_cons (se_int) (sa_nil)))))
    (sss_cons (ss_if (st_w (sw_or (st_cmp (oEq_ok cc hr ih) (se_var 1) (se_int)) (sw_or1 (st_cmp ops_lt (se_var 2) (se_int))))) (sss_one (ss_ret (se_ix (ixs_item cc) (se_call (fns_cal cc (ih.1 11 rfl rfl) (hr.mono (Nat.le_succ _))) rfl (NS.glo c 13) (keep_of c 13) (sa_cons (se_var 0) (sa_nil))) (se_call (fns_cal cc (ih.1 10 rfl rfl) (hr.mono (Nat.le_succ _))) rfl (NS.glo c 12) (keep_of c 12) (sa_cons (se_var 0) (sa_cons (se_int) (sa_nil))))))) (sss_nil))
    (sss_cons (ss_if (st_cmp (oEq_ok cc hr ih) (se_var 2) (se_int)) (sss_one (ss_ret (se_tup (sa_cons (se_str [110, 111, 116]) (sa_cons (se_call (fns_cal cc (ih.1 12 rfl rfl) (hr.mono (Nat.le_succ _))) rfl (NS.glo c 14) (keep_of c 14) (sa_cons (se_var 0) (sa_cons (se_bin (oSub_ok cc hr ih) (se_var 1) (se_int)) (sa_nil)))) (sa_nil))) (szl rfl)))) (sss_nil))
    (sss_one (ss_ret (se_tup (sa_cons (se_ix (ixs_item cc) (se_lv (sa_cons (se_str [97, 110, 100]) (sa_cons (se_str [111, 114]) (sa_nil))) (szl rfl)) (se_bin ops_mod (se_var 2) (se_int))) (sa_cons (se_call (fns_cal cc (ih.1 12 rfl rfl) (hr.mono (Nat.le_succ _))) rfl (NS.glo c 14) (keep_of c 14) (sa_cons (se_var 0) (sa_cons (se_bin (oSub_ok cc hr ih) (se_var 1) (se_int)) (sa_nil)))) (sa_cons (se_call (fns_cal cc (ih.1 12 rfl rfl) (hr.mono (Nat.le_succ _))) rfl (NS.glo c 14) (keep_of c 14) (sa_cons (se_var 0) (sa_cons (se_bin (oSub_ok cc hr ih) (se_var 1) (se_int)) (sa_nil)))) (sa_nil)))) (szl rfl))))))
theorem cal_12 (NS : Ns K mg) (n : Nat) (ih : IH c P w mg base n) : Cal (L.gx K c) P w mg base (lv (n + 1)) ((.g "_law_form" : Pth).ad K) (run (n + 1) 12) := by
  obtain ⟨M⟩ := c.fn 12 rfl
  have hv : M.dvs = [] := List.eq_nil_of_length_eq_zero (by rw [← (M.rd ⟨[], []⟩ fun _ => none).length]; rfl)
  exact cal_defD (ok_12 NS n ih M) rfl (fun j hj => ⟨[], by rw [hv]; cases j <;> exact .nil, FunD.bindsN (ps := ["_law_pool_here", "_law_depth"]) (hv ▸ M.F) fun _ _ _ _ _ _ us hl => match us, hl with | [_, _], _ => rfl⟩) M.rd
abbrev N_13 : List Str := ["_law_form_here", "_law_row_here"]
theorem sc_13 : FnScope N_13 ["_law_form_here", "_law_row_here"] (defScope s_13) := ⟨rfl, rfl, rfl, by decide +kernel, rfl, by decide +kernel, by decide +kernel⟩
theorem ok_13 (NS : Ns K mg) (n : Nat) (ih : IH c P w mg base n) (M : FnM (L.gx K c) ⟨.g "_law_holds", "_law_holds", "_law_holds", s_13, []⟩) : FnOk P w (L.gx K c).K mg base (L2.CX P w) (lv n + 1 + 1) ((.g "_law_holds" : Pth).ad (L.gx K c).K) M.fd ["_law_form_here", "_law_row_here"] (spF (L.gx K c) (bodyRun N_13.length (m_13 (run n))) (["_law_form_here", "_law_row_here"] : List Str).length) := by
  refine fnd_ok (G := L.gx K c) (k := lv n + 1) (ms := m_13 (run n)) M.F sc_13 fun cdv A outer s H E hr cc => ?_
  exact sss_cons (ss_if (st_cmp (oEq_ok cc hr ih) (se_ix (ixs_item cc) (se_var 0) (se_int)) (se_str [97, 110, 121])) (sss_one (ss_ret (se_bl))) (sss_nil))
    (sss_cons (ss_if (st_cmp (oEq_ok cc hr ih) (se_ix (ixs_item cc) (se_var 0) (se_int)) (se_str [110, 111, 116])) (sss_one (ss_ret (se_not (se_call (fns_cal cc (ih.1 13 rfl rfl) (hr.mono (Nat.le_succ _))) rfl (NS.glo c 15) (keep_of c 15) (sa_cons (se_ix (ixs_item cc) (se_var 0) (se_int)) (sa_cons (se_var 1) (sa_nil))))))) (sss_nil))
    (sss_cons (ss_if (st_cmp (oEq_ok cc hr ih) (se_ix (ixs_item cc) (se_var 0) (se_int)) (se_str [97, 110, 100])) (sss_one (ss_ret (se_and (se_call (fns_cal cc (ih.1 13 rfl rfl) (hr.mono (Nat.le_succ _))) rfl (NS.glo c 15) (keep_of c 15) (sa_cons (se_ix (ixs_item cc) (se_var 0) (se_int)) (sa_cons (se_var 1) (sa_nil)))) (se_one (se_call (fns_cal cc (ih.1 13 rfl rfl) (hr.mono (Nat.le_succ _))) rfl (NS.glo c 15) (keep_of c 15) (sa_cons (se_ix (ixs_item cc) (se_var 0) (se_int)) (sa_cons (se_var 1) (sa_nil)))))))) (sss_nil))
    (sss_cons (ss_if (st_cmp (oEq_ok cc hr ih) (se_ix (ixs_item cc) (se_var 0) (se_int)) (se_str [111, 114])) (sss_one (ss_ret (se_or (se_call (fns_cal cc (ih.1 13 rfl rfl) (hr.mono (Nat.le_succ _))) rfl (NS.glo c 15) (keep_of c 15) (sa_cons (se_ix (ixs_item cc) (se_var 0) (se_int)) (sa_cons (se_var 1) (sa_nil)))) (se_one (se_call (fns_cal cc (ih.1 13 rfl rfl) (hr.mono (Nat.le_succ _))) rfl (NS.glo c 15) (keep_of c 15) (sa_cons (se_ix (ixs_item cc) (se_var 0) (se_int)) (sa_cons (se_var 1) (sa_nil)))))))) (sss_nil))
    (sss_one (ss_ret (se_cmp (oEq_ok cc hr ih) (se_ix (ixs_item cc) (se_var 1) (se_bm PySem.F.plainAttrs_list PySem.F.slot_list_index PySem.F.type_list_index (mts_index cc (hu65_of hr)) (ck_list cc) (se_lv (sa_cons (se_str [107, 105, 110, 100]) (sa_cons (se_str [108, 101, 118, 101, 108]) (sa_cons (se_str [97, 99, 99, 101, 115, 115]) (sa_cons (se_str [111, 116, 104, 101, 114]) (sa_cons (se_str [97, 114, 114, 97, 121]) (sa_cons (se_str [119, 111, 114, 100]) (sa_nil))))))) (szl rfl)) (sa_cons (se_ix (ixs_item cc) (se_var 0) (se_int)) (sa_nil)))) (se_ix (ixs_item cc) (se_var 0) (se_int))))))))
theorem cal_13 (NS : Ns K mg) (n : Nat) (ih : IH c P w mg base n) : Cal (L.gx K c) P w mg base (lv (n + 1)) ((.g "_law_holds" : Pth).ad K) (run (n + 1) 13) := by
  obtain ⟨M⟩ := c.fn 13 rfl
  have hv : M.dvs = [] := List.eq_nil_of_length_eq_zero (by rw [← (M.rd ⟨[], []⟩ fun _ => none).length]; rfl)
  exact cal_defD (ok_13 NS n ih M) rfl (fun j hj => ⟨[], by rw [hv]; cases j <;> exact .nil, FunD.bindsN (ps := ["_law_form_here", "_law_row_here"]) (hv ▸ M.F) fun _ _ _ _ _ _ us hl => match us, hl with | [_, _], _ => rfl⟩) M.rd
abbrev N_14 : List Str := ["_law_condition", "_law_form_here", "_law_parts"]
theorem sc_14 : FnScope N_14 ["_law_condition", "_law_form_here"] (defScope s_14) := ⟨rfl, rfl, rfl, by decide +kernel, rfl, by decide +kernel, by decide +kernel⟩
theorem ok_14 (NS : Ns K mg) (n : Nat) (ih : IH c P w mg base n) (M : FnM (L.gx K c) ⟨.g "_law_is_like", "_law_is_like", "_law_is_like", s_14, []⟩) : FnOk P w (L.gx K c).K mg base (L2.CX P w) (lv n + 1 + 1) ((.g "_law_is_like" : Pth).ad (L.gx K c).K) M.fd ["_law_condition", "_law_form_here"] (spF (L.gx K c) (bodyRun N_14.length (m_14 (run n))) (["_law_condition", "_law_form_here"] : List Str).length) := by
  refine fnd_ok (G := L.gx K c) (k := lv n + 1) (ms := m_14 (run n)) M.F sc_14 fun cdv A outer s H E hr cc => ?_
  exact sss_cons (ss_set (i := 2) cc.nd rfl (by first | exact Or.inl rfl | exact Or.inr rfl) (se_meth0 cc (se_var 0) rfl (me_parts_ok cc hr ih)))
    (sss_cons (ss_if (st_w (sw_or (st_cmp (oNe_ok cc hr ih) (se_callB (fns_len cc) rfl (NS.free c 9) (by decide +kernel) (sa_cons (se_var 2) (sa_nil))) (se_callB (fns_len cc) rfl (NS.free c 9) (by decide +kernel) (sa_cons (se_var 1) (sa_nil)))) (sw_or1 (st_cmp (oNe_ok cc hr ih) (se_ix (ixs_item cc) (se_var 2) (se_int)) (se_ix (ixs_item cc) (se_var 1) (se_int)))))) (sss_one (ss_ret (se_bl))) (sss_nil))
    (sss_cons (ss_if (st_cmp (oEq_ok cc hr ih) (se_ix (ixs_item cc) (se_var 1) (se_int)) (se_str [110, 111, 116])) (sss_one (ss_ret (se_call (fns_cal cc (ih.1 14 rfl rfl) (hr.mono (Nat.le_succ _))) rfl (NS.glo c 16) (keep_of c 16) (sa_cons (se_ix (ixs_item cc) (se_var 2) (se_int)) (sa_cons (se_ix (ixs_item cc) (se_var 1) (se_int)) (sa_nil)))))) (sss_nil))
    (sss_cons (ss_if (st_cmp (ops_in cc) (se_ix (ixs_item cc) (se_var 1) (se_int)) (se_lv (sa_cons (se_str [97, 110, 100]) (sa_cons (se_str [111, 114]) (sa_nil))) (szl rfl))) (sss_one (ss_ret (se_and (se_call (fns_cal cc (ih.1 14 rfl rfl) (hr.mono (Nat.le_succ _))) rfl (NS.glo c 16) (keep_of c 16) (sa_cons (se_ix (ixs_item cc) (se_var 2) (se_int)) (sa_cons (se_ix (ixs_item cc) (se_var 1) (se_int)) (sa_nil)))) (se_one (se_call (fns_cal cc (ih.1 14 rfl rfl) (hr.mono (Nat.le_succ _))) rfl (NS.glo c 16) (keep_of c 16) (sa_cons (se_ix (ixs_item cc) (se_var 2) (se_int)) (sa_cons (se_ix (ixs_item cc) (se_var 1) (se_int)) (sa_nil)))))))) (sss_nil))
    (sss_one (ss_ret (se_cmp (oEq_ok cc hr ih) (se_var 2) (se_var 1)))))))
theorem cal_14 (NS : Ns K mg) (n : Nat) (ih : IH c P w mg base n) : Cal (L.gx K c) P w mg base (lv (n + 1)) ((.g "_law_is_like" : Pth).ad K) (run (n + 1) 14) := by
  obtain ⟨M⟩ := c.fn 14 rfl
  have hv : M.dvs = [] := List.eq_nil_of_length_eq_zero (by rw [← (M.rd ⟨[], []⟩ fun _ => none).length]; rfl)
  exact cal_defD (ok_14 NS n ih M) rfl (fun j hj => ⟨[], by rw [hv]; cases j <;> exact .nil, FunD.bindsN (ps := ["_law_condition", "_law_form_here"]) (hv ▸ M.F) fun _ _ _ _ _ _ us hl => match us, hl with | [_, _], _ => rfl⟩) M.rd
abbrev N_15 : List Str := ["_law_pool_here", "_law_sort", "_law_at", "_law_amount", "_law_last", "_law_own"]
theorem sc_15 : FnScope N_15 ["_law_pool_here"] (defScope s_15) := ⟨rfl, rfl, rfl, by decide +kernel, rfl, by decide +kernel, by decide +kernel⟩
theorem ok_15 (NS : Ns K mg) (n : Nat) (ih : IH c P w mg base n) (M : FnM (L.gx K c) ⟨.g "_law_row", "_law_row", "_law_row", s_15, []⟩) : FnOk P w (L.gx K c).K mg base (L2.CX P w) (lv n + 1 + 1) ((.g "_law_row" : Pth).ad (L.gx K c).K) M.fd ["_law_pool_here"] (spF (L.gx K c) (bodyRun N_15.length (m_15 (run n))) (["_law_pool_here"] : List Str).length) := by
  refine fnd_ok (G := L.gx K c) (k := lv n + 1) (ms := m_15 (run n)) M.F sc_15 fun cdv A outer s H E hr cc => ?_
  exact sss_cons (ss_set (i := 1) cc.nd rfl (by first | exact Or.inl rfl | exact Or.inr rfl) (se_ix (ixs_item cc) (se_lv (sa_cons (se_str [104, 105, 116]) (sa_cons (se_str [109, 105, 115, 115]) (sa_cons (se_str [99, 114, 111, 119, 100, 101, 100]) (sa_cons (se_str [98, 97, 99, 107]) (sa_cons (se_str [116, 104, 114, 111, 119, 110]) (sa_nil)))))) (szl rfl)) (se_call (fns_cal cc (ih.1 10 rfl rfl) (hr.mono (Nat.le_succ _))) rfl (NS.glo c 12) (keep_of c 12) (sa_cons (se_var 0) (sa_cons (se_int) (sa_nil))))))
    (sss_cons (ss_par (i := 2) (j := 3) cc.calm cc.nd rfl rfl (by decide) rfl rfl (sa_cons (se_call (fns_cal cc (ih.1 10 rfl rfl) (hr.mono (Nat.le_succ _))) rfl (NS.glo c 12) (keep_of c 12) (sa_cons (se_var 0) (sa_cons (se_int) (sa_nil)))) (sa_cons (se_call (fns_cal cc (ih.1 10 rfl rfl) (hr.mono (Nat.le_succ _))) rfl (NS.glo c 12) (keep_of c 12) (sa_cons (se_var 0) (sa_cons (se_bin ops_pow (se_int) (se_int)) (sa_nil)))) (sa_nil))))
    (sss_cons (ss_if (st_cmp (oEq_ok cc hr ih) (se_var 1) (se_str [98, 97, 99, 107])) (sss_one (ss_ret (se_tup (sa_cons (se_var 1) (sa_cons (se_var 2) (sa_cons (se_non) (sa_cons (se_non) (sa_cons (se_non) (sa_cons (se_non) (sa_cons (se_var 3) (sa_nil)))))))) (szl rfl)))) (sss_nil))
    (sss_cons (ss_set (i := 4) cc.nd rfl (by first | exact Or.inl rfl | exact Or.inr rfl) (se_if (st_cmp (oEq_ok cc hr ih) (se_var 1) (se_str [116, 104, 114, 111, 119, 110])) (se_call (fns_cal cc (ih.1 10 rfl rfl) (hr.mono (Nat.le_succ _))) rfl (NS.glo c 12) (keep_of c 12) (sa_cons (se_var 0) (sa_cons (se_int) (sa_nil)))) (se_non)))
    (sss_cons (ss_set (i := 5) cc.nd rfl (by first | exact Or.inl rfl | exact Or.inr rfl) (se_call (fns_cal cc (ih.1 10 rfl rfl) (hr.mono (Nat.le_succ _))) rfl (NS.glo c 12) (keep_of c 12) (sa_cons (se_var 0) (sa_cons (se_int) (sa_nil)))))
    (sss_one (ss_ret (se_tup (sa_cons (se_var 1) (sa_cons (se_var 2) (sa_cons (se_var 5) (sa_cons (se_var 4) (sa_cons (se_ix (ixs_item cc) (se_lv (sa_cons (se_str [97]) (sa_cons (se_str [98]) (sa_nil))) (szl rfl)) (se_call (fns_cal cc (ih.1 10 rfl rfl) (hr.mono (Nat.le_succ _))) rfl (NS.glo c 12) (keep_of c 12) (sa_cons (se_var 0) (sa_cons (se_int) (sa_nil))))) (sa_cons (se_ix (ixs_item cc) (se_lv (sa_cons (se_str [114, 101, 97, 100]) (sa_cons (se_str [119, 114, 105, 116, 101]) (sa_nil))) (szl rfl)) (se_call (fns_cal cc (ih.1 10 rfl rfl) (hr.mono (Nat.le_succ _))) rfl (NS.glo c 12) (keep_of c 12) (sa_cons (se_var 0) (sa_cons (se_int) (sa_nil))))) (sa_cons (se_var 3) (sa_nil)))))))) (szl rfl))))))))
theorem cal_15 (NS : Ns K mg) (n : Nat) (ih : IH c P w mg base n) : Cal (L.gx K c) P w mg base (lv (n + 1)) ((.g "_law_row" : Pth).ad K) (run (n + 1) 15) := by
  obtain ⟨M⟩ := c.fn 15 rfl
  have hv : M.dvs = [] := List.eq_nil_of_length_eq_zero (by rw [← (M.rd ⟨[], []⟩ fun _ => none).length]; rfl)
  exact cal_defD (ok_15 NS n ih M) rfl (fun j hj => ⟨[], by rw [hv]; cases j <;> exact .nil, FunD.bindsN (ps := ["_law_pool_here"]) (hv ▸ M.F) fun _ _ _ _ _ _ us hl => match us, hl with | [_], _ => rfl⟩) M.rd
abbrev N_16 : List Str := ["_law_field", "_law_thing"]
theorem sc_16 : FnScope N_16 ["_law_field", "_law_thing"] (defScope s_16) := ⟨rfl, rfl, rfl, by decide +kernel, rfl, by decide +kernel, by decide +kernel⟩
theorem ok_16 (NS : Ns K mg) (n : Nat) (ih : IH c P w mg base n) (M : FnM (L.gx K c) ⟨.g "_law_atom", "_law_atom", "_law_atom", s_16, []⟩) : FnOk P w (L.gx K c).K mg base (L2.CX P w) (lv n + 1 + 1) ((.g "_law_atom" : Pth).ad (L.gx K c).K) M.fd ["_law_field", "_law_thing"] (spF (L.gx K c) (bodyRun N_16.length (m_16 (run n))) (["_law_field", "_law_thing"] : List Str).length) := by
  refine fnd_ok (G := L.gx K c) (k := lv n + 1) (ms := m_16 (run n)) M.F sc_16 fun cdv A outer s H E hr cc => ?_
  exact sss_cons (ss_if (st_cmp (oEq_ok cc hr ih) (se_var 0) (se_str [107, 105, 110, 100])) (sss_one (ss_ret (se_kw (kn := [[107, 105, 110, 100]]) cc (ih.2.2.1 [[107, 105, 110, 100]] (by decide +kernel)) (hr.mono (Nat.le_succ _)) rfl (NS.glo c 17) (keep_of c 17) (SKs.cons (se_var 1) (SKs.nil)) (by kernel_rfl)))) (sss_nil))
    (sss_cons (ss_if (st_cmp (oEq_ok cc hr ih) (se_var 0) (se_str [108, 101, 118, 101, 108])) (sss_one (ss_ret (se_kw (kn := [[108, 101, 118, 101, 108]]) cc (ih.2.2.1 [[108, 101, 118, 101, 108]] (by decide +kernel)) (hr.mono (Nat.le_succ _)) rfl (NS.glo c 17) (keep_of c 17) (SKs.cons (se_var 1) (SKs.nil)) (by kernel_rfl)))) (sss_nil))
    (sss_cons (ss_if (st_cmp (oEq_ok cc hr ih) (se_var 0) (se_str [97, 99, 99, 101, 115, 115])) (sss_one (ss_ret (se_kw (kn := [[97, 99, 99, 101, 115, 115]]) cc (ih.2.2.1 [[97, 99, 99, 101, 115, 115]] (by decide +kernel)) (hr.mono (Nat.le_succ _)) rfl (NS.glo c 17) (keep_of c 17) (SKs.cons (se_var 1) (SKs.nil)) (by kernel_rfl)))) (sss_nil))
    (sss_cons (ss_if (st_cmp (oEq_ok cc hr ih) (se_var 0) (se_str [111, 116, 104, 101, 114])) (sss_one (ss_ret (se_kw (kn := [[111, 116, 104, 101, 114]]) cc (ih.2.2.1 [[111, 116, 104, 101, 114]] (by decide +kernel)) (hr.mono (Nat.le_succ _)) rfl (NS.glo c 17) (keep_of c 17) (SKs.cons (se_var 1) (SKs.nil)) (by kernel_rfl)))) (sss_nil))
    (sss_one (ss_ret (se_if (st_cmp (oEq_ok cc hr ih) (se_var 0) (se_str [97, 114, 114, 97, 121])) (se_kw (kn := [[97, 114, 114, 97, 121]]) cc (ih.2.2.1 [[97, 114, 114, 97, 121]] (by decide +kernel)) (hr.mono (Nat.le_succ _)) rfl (NS.glo c 17) (keep_of c 17) (SKs.cons (se_var 1) (SKs.nil)) (by kernel_rfl)) (se_kw (kn := [[119, 111, 114, 100]]) cc (ih.2.2.1 [[119, 111, 114, 100]] (by decide +kernel)) (hr.mono (Nat.le_succ _)) rfl (NS.glo c 17) (keep_of c 17) (SKs.cons (se_var 1) (SKs.nil)) (by kernel_rfl))))))))
theorem cal_16 (NS : Ns K mg) (n : Nat) (ih : IH c P w mg base n) : Cal (L.gx K c) P w mg base (lv (n + 1)) ((.g "_law_atom" : Pth).ad K) (run (n + 1) 16) := by
  obtain ⟨M⟩ := c.fn 16 rfl
  have hv : M.dvs = [] := List.eq_nil_of_length_eq_zero (by rw [← (M.rd ⟨[], []⟩ fun _ => none).length]; rfl)
  exact cal_defD (ok_16 NS n ih M) rfl (fun j hj => ⟨[], by rw [hv]; cases j <;> exact .nil, FunD.bindsN (ps := ["_law_field", "_law_thing"]) (hv ▸ M.F) fun _ _ _ _ _ _ us hl => match us, hl with | [_, _], _ => rfl⟩) M.rd
abbrev N_17 : List Str := ["_law_form_here", "_law_one", "_law_two"]
theorem sc_17 : FnScope N_17 ["_law_form_here"] (defScope s_17) := ⟨rfl, rfl, rfl, by decide +kernel, rfl, by decide +kernel, by decide +kernel⟩
theorem ok_17 (NS : Ns K mg) (n : Nat) (ih : IH c P w mg base n) (M : FnM (L.gx K c) ⟨.g "_law_built", "_law_built", "_law_built", s_17, []⟩) : FnOk P w (L.gx K c).K mg base (L2.CX P w) (lv n + 1 + 1) ((.g "_law_built" : Pth).ad (L.gx K c).K) M.fd ["_law_form_here"] (spF (L.gx K c) (bodyRun N_17.length (m_17 (run n))) (["_law_form_here"] : List Str).length) := by
  refine fnd_ok (G := L.gx K c) (k := lv n + 1) (ms := m_17 (run n)) M.F sc_17 fun cdv A outer s H E hr cc => ?_
  exact sss_cons (ss_if (st_cmp (oEq_ok cc hr ih) (se_ix (ixs_item cc) (se_var 0) (se_int)) (se_str [97, 110, 121])) (sss_one (ss_ret (se_call0 (fns_calK0 cc (ih.2.2.1 [] (by decide +kernel)) (hr.mono (Nat.le_succ _))) rfl (NS.glo c 17) (keep_of c 17)))) (sss_nil))
    (sss_cons (ss_if (st_cmp (oEq_ok cc hr ih) (se_ix (ixs_item cc) (se_var 0) (se_int)) (se_str [110, 111, 116])) (sss_one (ss_ret (se_un (oInv_ok cc hr ih) (se_call (fns_cal cc (ih.1 17 rfl rfl) (hr.mono (Nat.le_succ _))) rfl (NS.glo c 18) (keep_of c 18) (sa_cons (se_ix (ixs_item cc) (se_var 0) (se_int)) (sa_nil)))))) (sss_nil))
    (sss_cons (ss_if (st_cmp (ops_in cc) (se_ix (ixs_item cc) (se_var 0) (se_int)) (se_lv (sa_cons (se_str [97, 110, 100]) (sa_cons (se_str [111, 114]) (sa_nil))) (szl rfl))) (sss_cons (ss_par (i := 1) (j := 2) cc.calm cc.nd rfl rfl (by decide) rfl rfl (sa_cons (se_call (fns_cal cc (ih.1 17 rfl rfl) (hr.mono (Nat.le_succ _))) rfl (NS.glo c 18) (keep_of c 18) (sa_cons (se_ix (ixs_item cc) (se_var 0) (se_int)) (sa_nil))) (sa_cons (se_call (fns_cal cc (ih.1 17 rfl rfl) (hr.mono (Nat.le_succ _))) rfl (NS.glo c 18) (keep_of c 18) (sa_cons (se_ix (ixs_item cc) (se_var 0) (se_int)) (sa_nil))) (sa_nil))))
    (sss_one (ss_ret (se_if (st_cmp (oEq_ok cc hr ih) (se_ix (ixs_item cc) (se_var 0) (se_int)) (se_str [97, 110, 100])) (se_bin (oBitAnd_ok cc hr ih) (se_var 1) (se_var 2)) (se_bin (oBitOr_ok cc hr ih) (se_var 1) (se_var 2)))))) (sss_nil))
    (sss_one (ss_ret (se_call (fns_cal cc (ih.1 16 rfl rfl) (hr.mono (Nat.le_succ _))) rfl (NS.glo c 19) (keep_of c 19) (sa_cons (se_ix (ixs_item cc) (se_var 0) (se_int)) (sa_cons (se_ix (ixs_item cc) (se_var 0) (se_int)) (sa_nil))))))))
theorem cal_17 (NS : Ns K mg) (n : Nat) (ih : IH c P w mg base n) : Cal (L.gx K c) P w mg base (lv (n + 1)) ((.g "_law_built" : Pth).ad K) (run (n + 1) 17) := by
  obtain ⟨M⟩ := c.fn 17 rfl
  have hv : M.dvs = [] := List.eq_nil_of_length_eq_zero (by rw [← (M.rd ⟨[], []⟩ fun _ => none).length]; rfl)
  exact cal_defD (ok_17 NS n ih M) rfl (fun j hj => ⟨[], by rw [hv]; cases j <;> exact .nil, FunD.bindsN (ps := ["_law_form_here"]) (hv ▸ M.F) fun _ _ _ _ _ _ us hl => match us, hl with | [_], _ => rfl⟩) M.rd
abbrev N_18 : List Str := ["_law_call", "e"]
theorem sc_18 : FnScope N_18 ["_law_call"] (defScope s_18) := ⟨rfl, rfl, rfl, by decide +kernel, rfl, by decide +kernel, by decide +kernel⟩
theorem ok_18 (NS : Ns K mg) (n : Nat) (ih : IH c P w mg base n) (M : FnM (L.gx K c) ⟨.g "_law_heard", "_law_heard", "_law_heard", s_18, []⟩) : FnOk P w (L.gx K c).K mg base (L2.CX P w) (lv n + 1 + 1) ((.g "_law_heard" : Pth).ad (L.gx K c).K) M.fd ["_law_call"] (spF (L.gx K c) (bodyRun N_18.length (m_18 (run n))) (["_law_call"] : List Str).length) := by
  refine fnd_ok (G := L.gx K c) (k := lv n + 1) (ms := m_18 (run n)) M.F sc_18 fun cdv A outer s H E hr cc => ?_
  exact sss_one (ss_try cc (isxL_ok c) rfl rfl (fun _ _ _ cc => sss_cons (ss_expr (se_callL cc (se_var 0) (hr.mono (Nat.le_succ _)) (ih.2.2.2)))
    (sss_one (ss_ret (se_non)))) (ClS.named ⟨rfl, rfl, .inl (NS.glo c 8)⟩ (clsv_of c 1 rfl) rfl rfl (sx_fL (j := 1) 1 1 6 7 cc.k rfl rfl rfl rfl rfl (by first | exact Or.inl rfl | exact Or.inr (Or.inl rfl) | exact Or.inr (Or.inr rfl))) (ClS.nil)))
theorem cal_18 (NS : Ns K mg) (n : Nat) (ih : IH c P w mg base n) : Cal (L.gx K c) P w mg base (lv (n + 1)) ((.g "_law_heard" : Pth).ad K) (run (n + 1) 18) := by
  obtain ⟨M⟩ := c.fn 18 rfl
  have hv : M.dvs = [] := List.eq_nil_of_length_eq_zero (by rw [← (M.rd ⟨[], []⟩ fun _ => none).length]; rfl)
  exact cal_defD (ok_18 NS n ih M) rfl (fun j hj => ⟨[], by rw [hv]; cases j <;> exact .nil, FunD.bindsN (ps := ["_law_call"]) (hv ▸ M.F) fun _ _ _ _ _ _ us hl => match us, hl with | [_], _ => rfl⟩) M.rd
abbrev N_19 : List Str := ["_law_script", "_law_k", "_law_pool_here", "_law_rows", "_law_forms", "_law_turn", "_law_form_here", "_law_told", "_law_row_here", "_law_found", "_law_due", "_law_some", "_law_one", "_law_doors", "_law_door"]
theorem sc_19 : FnScope N_19 ["_law_script"] (defScope s_19) := ⟨rfl, rfl, rfl, by decide +kernel, rfl, by decide +kernel, by decide +kernel⟩
theorem ok_19 (NS : Ns K mg) (n : Nat) (ih : IH c P w mg base n) (M : FnM (L.gx K c) ⟨.g "law", "law", "law", s_19, []⟩) {p : Addr × Addr} (hp : PySem.W.tabIn K "law" = some p) (hT : (L.gx K c).tabs = [(p.2, ("law.<locals>.<lambda>" : Str))]) (TB : LamX.TabB base mg p.1 p.2) : FnG P w (L.gx K c).K mg base (L2.CX P w) (lv n + 3 + 1) ((.g "law" : Pth).ad (L.gx K c).K) M.fd ["_law_script"] (spF (L.gx K c) (bodyRun N_19.length (m_19 (run n))) (["_law_script"] : List Str).length) := by
  have hcode := code_of M.F hp
  refine fndL_ok (G := L.gx K c) (k := lv n + 3) (ms := m_19 (run n)) M.F sc_19 fun A outer s H E hrT ng cc => ?_
  have hr := hrT.mono (show lv n + 1 ≤ lv n + 3 by omega)
  exact sss_cons (ss_for 1000 cc (si_range1 (sa_cons (se_callB (fns_max2 cc) rfl (NS.free c 21) (by decide +kernel) (sa_cons (se_int) (sa_cons (se_callB (fns_min2 cc) rfl (NS.free c 20) (by decide +kernel) (sa_cons (se_callB (fns_len cc) rfl (NS.free c 9) (by decide +kernel) (sa_cons (se_var 0) (sa_nil))) (sa_cons (se_int) (sa_nil)))) (sa_nil)))) (sa_nil)) rfl (NS.free c 22)) (sg_name cc.nd rfl (by first | exact Or.inl rfl | exact Or.inr rfl)) (sss_cons (ss_set (i := 2) cc.nd rfl (by first | exact Or.inl rfl | exact Or.inr rfl) (se_call (fns_cal cc (ih.1 9 rfl rfl) (hr.mono (Nat.le_succ _))) rfl (NS.glo c 23) (keep_of c 23) (sa_cons (se_var 0) (sa_cons (se_var 1) (sa_nil)))))
    (sss_cons (ss_par (i := 3) (j := 4) cc.calm cc.nd rfl rfl (by decide) rfl rfl (sa_cons (se_lcc (own := [("_law_turn", 5)]) (t := (.one 5)) 1000 cc (si_range1 (sa_cons (se_int) (sa_nil)) rfl (NS.free c 22)) (blkOk_by (N := N_19) (sc := defScope s_19) (by decide +kernel)) (by decide) (fun _ _ _ _ _ cc => pg_name cc.nd rfl (by first | exact Or.inl rfl | exact Or.inr rfl)) (fun _ _ _ _ _ cc => sts_nil) (fun _ _ _ _ _ cc => se_call (fns_cal cc (ih.1 15 rfl rfl) (hr.mono (Nat.le_succ _))) rfl (NS.glo c 24) (keep_of c 24) (sa_cons (se_var 2) (sa_nil)))) (sa_cons (se_lcc (own := [("_law_turn", 5)]) (t := (.one 5)) 1000 cc (si_range1 (sa_cons (se_int) (sa_nil)) rfl (NS.free c 22)) (blkOk_by (N := N_19) (sc := defScope s_19) (by decide +kernel)) (by decide) (fun _ _ _ _ _ cc => pg_name cc.nd rfl (by first | exact Or.inl rfl | exact Or.inr rfl)) (fun _ _ _ _ _ cc => sts_nil) (fun _ _ _ _ _ cc => se_call (fns_cal cc (ih.1 12 rfl rfl) (hr.mono (Nat.le_succ _))) rfl (NS.glo c 14) (keep_of c 14) (sa_cons (se_var 2) (sa_cons (se_int) (sa_nil))))) (sa_nil))))
    (sss_cons (ss_for 1000 cc (si_seq cc (se_var 4)) (sg_name cc.nd rfl (by first | exact Or.inl rfl | exact Or.inr rfl)) (sss_cons (ss_setLc (i := 7) (own := [("_law_row_here", 8)]) (t := (.one 8)) 1000 cc rfl rfl rfl rfl rfl (si_seq cc (se_var 3)) (blkOk_by (N := N_19) (sc := defScope s_19) (by decide +kernel)) (by decide) (fun _ _ _ _ _ cc => pg_name cc.nd rfl (by first | exact Or.inl rfl | exact Or.inr rfl)) (fun _ _ _ _ _ cc => sts_nil) (fun _ _ _ _ _ cc => se_callI cc (se_call (fns_cal cc (ih.1 17 rfl rfl) (hr.mono (Nat.le_succ _))) rfl (NS.glo c 18) (keep_of c 18) (sa_cons (se_var 6) (sa_nil))) (dCall_ok cc hr ih) (sa_cons (se_var 8) (sa_nil))))
    (sss_one (ss_if (st_cmp (oNe_ok cc hr ih) (se_callB (fns_repr 8 cc.k ng (hu_of hr)) rfl (NS.free c 25) (by decide +kernel) (sa_cons (se_var 7) (sa_nil))) (se_callB (fns_repr 8 cc.k ng (hu_of hr)) rfl (NS.free c 25) (by decide +kernel) (sa_cons (se_lcc (own := [("_law_row_here", 8)]) (t := (.one 8)) 1000 cc (si_seq cc (se_var 3)) (blkOk_by (N := N_19) (sc := defScope s_19) (by decide +kernel)) (by decide) (fun _ _ _ _ _ cc => pg_name cc.nd rfl (by first | exact Or.inl rfl | exact Or.inr rfl)) (fun _ _ _ _ _ cc => sts_nil) (fun _ _ _ _ _ cc => se_call (fns_cal cc (ih.1 13 rfl rfl) (hr.mono (Nat.le_succ _))) rfl (NS.glo c 15) (keep_of c 15) (sa_cons (se_var 6) (sa_cons (se_var 8) (sa_nil))))) (sa_nil)))) (sss_one (ss_ret (se_bl))) (sss_nil)))))
    (sss_cons (ss_set (i := 8) cc.nd rfl (by first | exact Or.inl rfl | exact Or.inr rfl) (se_ix (ixs_item cc) (se_var 3) (se_int)))
    (sss_cons (ss_set (i := 9) cc.nd rfl (by first | exact Or.inl rfl | exact Or.inr rfl) (se_kw (kn := [[107, 105, 110, 100], [97, 114, 114, 97, 121], [108, 101, 118, 101, 108]]) cc (ih.2.2.1 [[107, 105, 110, 100], [97, 114, 114, 97, 121], [108, 101, 118, 101, 108]] (by decide +kernel)) (hr.mono (Nat.le_succ _)) rfl (NS.glo c 17) (keep_of c 17) (SKs.cons (se_ix (ixs_item cc) (se_var 8) (se_int)) (SKs.cons (se_ix (ixs_item cc) (se_var 8) (se_int)) (SKs.cons (se_ix (ixs_item cc) (se_var 8) (se_int)) (SKs.nil)))) (by kernel_rfl)))
    (sss_cons (ss_set (i := 10) cc.nd rfl (by first | exact Or.inl rfl | exact Or.inr rfl) (se_tup (sa_cons (se_str [97, 110, 100]) (sa_cons (se_tup (sa_cons (se_str [97, 110, 100]) (sa_cons (se_tup (sa_cons (se_str [107, 105, 110, 100]) (sa_cons (se_ix (ixs_item cc) (se_var 8) (se_int)) (sa_nil))) (szl rfl)) (sa_cons (se_tup (sa_cons (se_str [97, 114, 114, 97, 121]) (sa_cons (se_ix (ixs_item cc) (se_var 8) (se_int)) (sa_nil))) (szl rfl)) (sa_nil)))) (szl rfl)) (sa_cons (se_tup (sa_cons (se_str [108, 101, 118, 101, 108]) (sa_cons (se_ix (ixs_item cc) (se_var 8) (se_int)) (sa_nil))) (szl rfl)) (sa_nil)))) (szl rfl)))
    (sss_cons (ss_if (st_w (sw_or (st_not (st_tru cc (se_call (fns_cal cc (ih.1 14 rfl rfl) (hr.mono (Nat.le_succ _))) rfl (NS.glo c 16) (keep_of c 16) (sa_cons (se_var 9) (sa_cons (se_var 10) (sa_nil)))))) (sw_or1 (st_cmp ops_isnot (se_callI cc (se_var 9) (dCall_ok cc hr ih) (sa_cons (se_var 8) (sa_nil))) (se_bl))))) (sss_one (ss_ret (se_bl))) (sss_nil))
    (sss_cons (ss_if (st_w (sw_or (st_not (st_tru cc (se_call (fns_cal cc (ih.1 14 rfl rfl) (hr.mono (Nat.le_succ _))) rfl (NS.glo c 16) (keep_of c 16) (sa_cons (se_kw (kn := [[111, 116, 104, 101, 114]]) cc (ih.2.2.1 [[111, 116, 104, 101, 114]] (by decide +kernel)) (hr.mono (Nat.le_succ _)) rfl (NS.glo c 17) (keep_of c 17) (SKs.cons (se_ix (ixs_item cc) (se_var 8) (se_int)) (SKs.nil)) (by kernel_rfl)) (sa_cons (se_tup (sa_cons (se_str [111, 116, 104, 101, 114]) (sa_cons (se_ix (ixs_item cc) (se_var 8) (se_int)) (sa_nil))) (szl rfl)) (sa_nil)))))) (sw_or1 (st_cmp ops_isnot (se_callI cc (se_kw (kn := [[111, 116, 104, 101, 114]]) cc (ih.2.2.1 [[111, 116, 104, 101, 114]] (by decide +kernel)) (hr.mono (Nat.le_succ _)) rfl (NS.glo c 17) (keep_of c 17) (SKs.cons (se_ix (ixs_item cc) (se_var 8) (se_int)) (SKs.nil)) (by kernel_rfl)) (dCall_ok cc hr ih) (sa_cons (se_var 8) (sa_nil))) (se_bl))))) (sss_one (ss_ret (se_bl))) (sss_nil))
    (sss_cons (ss_setLc (i := 11) (own := [("_law_one", 12)]) (t := (.one 12)) 1000 cc rfl rfl rfl rfl rfl (si_seq cc (se_var 3)) (blkOk_by (N := N_19) (sc := defScope s_19) (by decide +kernel)) (by decide) (fun _ _ _ _ _ cc => pg_name cc.nd rfl (by first | exact Or.inl rfl | exact Or.inr rfl)) (fun _ _ _ _ _ cc => sts_one (st_tru cc (se_callI cc (se_kw (kn := [[97, 99, 99, 101, 115, 115], [119, 111, 114, 100]]) cc (ih.2.2.1 [[97, 99, 99, 101, 115, 115], [119, 111, 114, 100]] (by decide +kernel)) (hr.mono (Nat.le_succ _)) rfl (NS.glo c 17) (keep_of c 17) (SKs.cons (se_ix (ixs_item cc) (se_var 8) (se_int)) (SKs.cons (se_ix (ixs_item cc) (se_var 8) (se_int)) (SKs.nil))) (by kernel_rfl)) (dCall_ok cc hr ih) (sa_cons (se_var 12) (sa_nil))))) (fun _ _ _ _ _ cc => se_var 12))
    (sss_cons (ss_if (st_cmp (oNe_ok cc hr ih) (se_var 11) (se_lcc (own := [("_law_one", 12)]) (t := (.one 12)) 1000 cc (si_seq cc (se_var 3)) (blkOk_by (N := N_19) (sc := defScope s_19) (by decide +kernel)) (by decide) (fun _ _ _ _ _ cc => pg_name cc.nd rfl (by first | exact Or.inl rfl | exact Or.inr rfl)) (fun _ _ _ _ _ cc => sts_one (st_w (sw_and (st_cmp (oEq_ok cc hr ih) (se_ix (ixs_item cc) (se_var 12) (se_int)) (se_ix (ixs_item cc) (se_var 8) (se_int))) (sw_and1 (st_cmp (oEq_ok cc hr ih) (se_ix (ixs_item cc) (se_var 12) (se_int)) (se_ix (ixs_item cc) (se_var 8) (se_int))))))) (fun _ _ _ _ _ cc => se_var 12))) (sss_one (ss_ret (se_bl))) (sss_nil))
    (sss_one (ss_if (st_cmp (oNe_ok cc hr ih) (se_lcc (own := [("_law_one", 12)]) (t := (.one 12)) 1000 cc (si_seq cc (se_var 3)) (blkOk_by (N := N_19) (sc := defScope s_19) (by decide +kernel)) (by decide) (fun _ _ _ _ _ cc => pg_name cc.nd rfl (by first | exact Or.inl rfl | exact Or.inr rfl)) (fun _ _ _ _ _ cc => sts_one (st_tru cc (se_callI cc (se_un (oInv_ok cc hr ih) (se_kw (kn := [[108, 101, 118, 101, 108]]) cc (ih.2.2.1 [[108, 101, 118, 101, 108]] (by decide +kernel)) (hr.mono (Nat.le_succ _)) rfl (NS.glo c 17) (keep_of c 17) (SKs.cons (se_int) (SKs.nil)) (by kernel_rfl))) (dCall_ok cc hr ih) (sa_cons (se_var 12) (sa_nil))))) (fun _ _ _ _ _ cc => se_var 12)) (se_lcc (own := [("_law_one", 12)]) (t := (.one 12)) 1000 cc (si_seq cc (se_var 3)) (blkOk_by (N := N_19) (sc := defScope s_19) (by decide +kernel)) (by decide) (fun _ _ _ _ _ cc => pg_name cc.nd rfl (by first | exact Or.inl rfl | exact Or.inr rfl)) (fun _ _ _ _ _ cc => sts_one (st_cmp (oNe_ok cc hr ih) (se_ix (ixs_item cc) (se_var 12) (se_int)) (se_int))) (fun _ _ _ _ _ cc => se_var 12))) (sss_one (ss_ret (se_bl))) (sss_nil))))))))))))))
    (sss_cons (ss_set (i := 13) cc.nd rfl (by first | exact Or.inl rfl | exact Or.inr rfl) (se_lst (sa_cons (se_lamV TB hcode hT rfl rfl (by decide +kernel)) (sa_nil)) (szl rfl)))
    (sss_cons (ss_expr (se_bm PySem.F.plainAttrs_list PySem.F.slot_list_append PySem.F.type_list_append mts_append (ck_list cc) (se_var 13) (sa_cons (se_lamV TB hcode hT rfl rfl (by decide +kernel)) (sa_nil))))
    (sss_cons (ss_expr (se_bm PySem.F.plainAttrs_list PySem.F.slot_list_append PySem.F.type_list_append mts_append (ck_list cc) (se_var 13) (sa_cons (se_lamV TB hcode hT rfl rfl (by decide +kernel)) (sa_nil))))
    (sss_cons (ss_for 1000 cc (si_zip0 cc (se_var 13) (se_lv (sa_cons (se_str [108, 101, 118, 101, 108, 115]) (sa_cons (se_str [116, 111, 116, 97, 108]) (sa_cons (se_str [101, 118, 101, 114, 121]) (sa_nil)))) (szl rfl)) rfl (NS.free c 26)) (sg_tup cc (sgs_cons (sg_name cc.nd rfl (by first | exact Or.inl rfl | exact Or.inr rfl)) (sgs_cons (sg_name cc.nd rfl (by first | exact Or.inl rfl | exact Or.inr rfl)) (sgs_nil)))) (sss_one (ss_if (st_cmp (oNe_ok cc hr ih) (se_call (fns_cal cc (ih.1 18 rfl rfl) (hr.mono (Nat.le_succ _))) rfl (NS.glo c 27) (keep_of c 27) (sa_cons (se_var 14) (sa_nil))) (se_var 10)) (sss_one (ss_ret (se_bl))) (sss_nil))))
    (sss_one (ss_ret (se_cmp (oEq_ok cc hr ih) (se_call (fns_cal cc (ih.1 18 rfl rfl) (hr.mono (Nat.le_succ _))) rfl (NS.glo c 27) (keep_of c 27) (sa_cons (se_lamV TB hcode hT rfl rfl (by decide +kernel)) (sa_nil))) (se_str [115, 112, 111, 116]))))))))
theorem lsc_0 : FnScope [] [] (lamScope lamE_0) := ⟨rfl, rfl, rfl, by decide +kernel, rfl, by decide +kernel, by decide +kernel⟩
theorem calL_0 (NS : Ns K mg) (n : Nat) (ih : IH c P w mg base n) : CalL (L.gx K c) P w mg base (lv n + 1 + 1) 0 (lamRun (lm_0 (run n))) := calL_of (q := "law.<locals>.<lambda>") (ps := lamArgs lamE_0) (bd := lamBody lamE_0) (sc := lamScope lamE_0) rfl lsc_0 (fun _ _ _ => rfl) fun f cdv A outer s H E hr cc => se_kw (kn := [[108, 101, 118, 101, 108, 115]]) cc (ih.2.2.1 [[108, 101, 118, 101, 108, 115]] (by decide +kernel)) (hr.mono (Nat.le_succ _)) rfl (NS.glo c 17) (keep_of c 17) (SKs.cons (se_int) (SKs.nil)) (by kernel_rfl)
theorem lsc_1 : FnScope [] [] (lamScope lamE_1) := ⟨rfl, rfl, rfl, by decide +kernel, rfl, by decide +kernel, by decide +kernel⟩
theorem calL_1 (NS : Ns K mg) (n : Nat) (ih : IH c P w mg base n) : CalL (L.gx K c) P w mg base (lv n + 1 + 1) 1 (lamRun (lm_1 (run n))) := calL_of (q := "law.<locals>.<lambda>") (ps := lamArgs lamE_1) (bd := lamBody lamE_1) (sc := lamScope lamE_1) rfl lsc_1 (fun _ _ _ => rfl) fun f cdv A outer s H E hr cc => se_kw (kn := [[108, 101, 118, 101, 108], [116, 111, 116, 97, 108]]) cc (ih.2.2.1 [[108, 101, 118, 101, 108], [116, 111, 116, 97, 108]] (by decide +kernel)) (hr.mono (Nat.le_succ _)) rfl (NS.glo c 17) (keep_of c 17) (SKs.cons (se_int) (SKs.cons (se_int) (SKs.nil))) (by kernel_rfl)
theorem lsc_2 : FnScope [] [] (lamScope lamE_2) := ⟨rfl, rfl, rfl, by decide +kernel, rfl, by decide +kernel, by decide +kernel⟩
theorem calL_2 (NS : Ns K mg) (n : Nat) (ih : IH c P w mg base n) : CalL (L.gx K c) P w mg base (lv n + 1 + 1) 2 (lamRun (lm_2 (run n))) := calL_of (q := "law.<locals>.<lambda>") (ps := lamArgs lamE_2) (bd := lamBody lamE_2) (sc := lamScope lamE_2) rfl lsc_2 (fun _ _ _ => rfl) fun f cdv A outer s H E hr cc => se_kw (kn := [[101, 118, 101, 114, 121], [107, 105, 110, 100]]) cc (ih.2.2.1 [[101, 118, 101, 114, 121], [107, 105, 110, 100]] (by decide +kernel)) (hr.mono (Nat.le_succ _)) rfl (NS.glo c 17) (keep_of c 17) (SKs.cons (se_non) (SKs.cons (se_str [104, 105, 116]) (SKs.nil))) (by kernel_rfl)
theorem lsc_3 : FnScope [] [] (lamScope lamE_3) := ⟨rfl, rfl, rfl, by decide +kernel, rfl, by decide +kernel, by decide +kernel⟩
theorem calL_3 (NS : Ns K mg) (n : Nat) (ih : IH c P w mg base n) : CalL (L.gx K c) P w mg base (lv n + 1 + 1) 3 (lamRun (lm_3 (run n))) := calL_of (q := "law.<locals>.<lambda>") (ps := lamArgs lamE_3) (bd := lamBody lamE_3) (sc := lamScope lamE_3) rfl lsc_3 (fun _ _ _ => rfl) fun f cdv A outer s H E hr cc => se_kw (kn := [[108, 101, 118, 101, 108], [107, 105, 110, 100], [115, 112, 111, 116]]) cc (ih.2.2.1 [[108, 101, 118, 101, 108], [107, 105, 110, 100], [115, 112, 111, 116]] (by decide +kernel)) (hr.mono (Nat.le_succ _)) rfl (NS.glo c 17) (keep_of c 17) (SKs.cons (se_int) (SKs.cons (se_str [120]) (SKs.cons (se_int) (SKs.nil)))) (by kernel_rfl)
theorem dLam_ok (NS : Ns K mg) (n : Nat) (ih : IH c P w mg base n) : ∀ j g, dLam (run (n + 1)) j = some g → CalL (L.gx K c) P w mg base (lv (n + 1)) j g := fun j g h => by
  unfold dLam at h
  split at h
  · cases h; exact calL_0 NS n ih
  · cases h; exact calL_1 NS n ih
  · cases h; exact calL_2 NS n ih
  · cases h; exact calL_3 NS n ih
  · cases h
theorem dLam_0 : ∀ j g, dLam (run 0) j = some g → CalL (L.gx K c) P w mg base (lv 0) j g := fun j g h => by
  unfold dLam at h
  split at h
  · cases h; exact calL0
  · cases h; exact calL0
  · cases h; exact calL0
  · cases h; exact calL0
  · cases h
theorem all (NS : Ns K mg) : ∀ n, IH c P w mg base n
  | 0 => ⟨fun j _ _ _ => cal0, fun j _ _ => calG0, fun kn _ => calK0, dLam_0⟩
  | n + 1 => by
    have ih := all NS n
    have one : ∀ (j : Nat) {d : DefM}, defs[j]? = some d → isG j = false → Cal (L.gx K c) P w mg base (lv (n + 1)) (d.pth.ad K) (run (n + 1) j) := fun j d h z => by
      match j, h with
      | 0, h => cases h; exact cal0
      | 1, h => cases h; exact cal_1 NS n ih
      | 2, h => cases h; exact cal_2 NS n ih
      | 3, h => cases h; exact cal_3 NS n ih
      | 4, h => cases h; exact cal_4 NS n ih
      | 5, h => cases h; exact cal_5 NS n ih
      | 6, h => cases h; exact cal_6 NS n ih
      | 7, h => cases h; exact cal_7 NS n ih
      | 8, h => cases h; exact cal0
      | 9, h => cases h; exact cal_9 NS n ih
      | 10, h => cases h; exact cal_10 NS n ih
      | 11, h => cases h; exact cal_11 NS n ih
      | 12, h => cases h; exact cal_12 NS n ih
      | 13, h => cases h; exact cal_13 NS n ih
      | 14, h => cases h; exact cal_14 NS n ih
      | 15, h => cases h; exact cal_15 NS n ih
      | 16, h => cases h; exact cal_16 NS n ih
      | 17, h => cases h; exact cal_17 NS n ih
      | 18, h => cases h; exact cal_18 NS n ih
      | 19, h => cases h; exact cal0
      | k + 20, h => exact absurd h (by simp [defs])
    refine ⟨one, fun j d h => ?_, ok_8 NS n ih, dLam_ok NS n ih⟩
    match j, h with
    | 0, h => exact (one 0 h rfl).toG
    | 1, h => exact (one 1 h rfl).toG
    | 2, h => exact (one 2 h rfl).toG
    | 3, h => exact (one 3 h rfl).toG
    | 4, h => exact (one 4 h rfl).toG
    | 5, h => exact (one 5 h rfl).toG
    | 6, h => exact (one 6 h rfl).toG
    | 7, h => exact (one 7 h rfl).toG
    | 8, h => exact (one 8 h rfl).toG
    | 9, h => exact (one 9 h rfl).toG
    | 10, h => exact (one 10 h rfl).toG
    | 11, h => exact (one 11 h rfl).toG
    | 12, h => exact (one 12 h rfl).toG
    | 13, h => exact (one 13 h rfl).toG
    | 14, h => exact (one 14 h rfl).toG
    | 15, h => exact (one 15 h rfl).toG
    | 16, h => exact (one 16 h rfl).toG
    | 17, h => exact (one 17 h rfl).toG
    | 18, h => exact (one 18 h rfl).toG
    | 19, h => exact calG0
    | k + 20, h => exact absurd h (by simp [defs])
end
end L2.Mi.Pg

set_option Elab.async false
set_option linter.all false
set_option maxRecDepth 100000
set_option maxHeartbeats 4000000
namespace L2.Mi.Pg
open PySem PySem.Spec PyProof.Rows
theorem ob_eq (s : PySem.W.SharedT) : ob s = hk.obs s.abs := Lw.obsG_eq (HandSHeadRun.getT_eq s)
end L2.Mi.Pg

set_option Elab.async false
set_option linter.all false
set_option maxRecDepth 100000
set_option maxHeartbeats 1000000
namespace L2.Mi.Pg
open PySem
section
variable {S : Store} {i n : Nat} {w : Int} {E : Xn → Store → Prop}
theorem tk_ok (hp : Pool S i) (w0 : 0 < w) (w1 : w < 2 ^ 31) : ∃ r S', run (n + 1) 10 [.ref i, .int w] S = .ok (.int r) S' ∧ 0 ≤ r ∧ r < w ∧ Pool S' i ∧ Fr S S' i ∧ S'.size = S.size := by
  obtain ⟨r, o, e, h1, h2, h3⟩ := take_ok (oA := oAdd (run n)) (oM := oMul (run n)) opsI_or hp w0 w1
  exact ⟨r, _, by rw [run_10]; exact e, h1, h2, h3, Fr.set, Store.size_set _ _ _⟩
theorem tk (hp : Pool S i) (w0 : 0 < w) (w1 : w < 2 ^ 31) : (run (n + 1) 10 [.ref i, .int w] S).sat (fun v S' => ∃ r, v = .int r ∧ 0 ≤ r ∧ r < w ∧ Pool S' i ∧ Fr S S' i ∧ S'.size = S.size) E := by
  obtain ⟨r, S', e, h⟩ := tk_ok (n := n) hp w0 w1
  rw [e]
  exact ⟨r, rfl, h⟩
theorem pl {ns : List Int} {k : Nat} (hk : k < 1000) (hl : ns.length ≤ 1000) : (run (n + 1) 9 [.fl (ns.map D.int), .int (k : Int)] S).sat (fun v S' => v = .ref S.size ∧ Pool S' S.size ∧ Fr S S' S.size ∧ S'.size = S.size + 1) E := by
  obtain ⟨o, e, h⟩ := pool_ok (lx := lenF) (oA := oAdd (run n)) (oM := oMul (run n)) (S := S) (ns := ns) opsI_or (by rfl) hk hl
  rw [run_9]
  refine sat_eq e ⟨rfl, h, Fr.push, Store.size_push _ _⟩
/-- how many rounds a law goes -/
theorem rounds_ok {ns : List Int} {σ : En} {K : Int} (hK : 0 ≤ K) (hK2 : K ≤ 64) (hl : ns.length ≤ 1000) : ∃ m : Nat, eFn max2F (aList [eC (.int 1), eFn min2F (aList [eFn (lenF) (aList [eVar 0]), eC (.int K)])]) (some (.fl (ns.map D.int)) :: σ) S = .ok (.int (m : Int)) S ∧ m ≤ 64 := by
  have hlen : (lenF) [.fl (ns.map D.int)] S = .ok (.int (ns.length : Int)) S := by
    have z : lenF [.fl (ns.map D.int)] S = .ok (.int (ns.length : Int)) S := by rw [lenF_seq (xs := ns.map D.int) rfl, List.length_map]
    first | exact z | (unfold fnOr; rw [z]; rfl)
  refine ⟨(if (if K < (ns.length : Int) then K else (ns.length : Int)) > 1 then (if K < (ns.length : Int) then K else (ns.length : Int)) else 1).toNat, ?_, ?_⟩
  · simp only [eFn_ev, aList_cons, aList_nil, eC_ev, eVar_0, bind_ok', hlen, min2F, max2F_ev]
    congr 2
    split <;> split <;> omega
  · split <;> split <;> omega
end
end L2.Mi.Pg

set_option Elab.async false
set_option linter.all false
set_option maxRecDepth 100000
set_option maxHeartbeats 1000000
namespace L2.Mi.Pg
open PySem
inductive At : D → Prop
  | non : At .non
  | int (i : Int) : At (.int i)
  | str (x : List Nat) : Txt x → At (.str x)
theorem At.ok {v : D} (h : At v) : okD 0 v = true := by
  cases h with
  | non => rfl
  | int i => rfl
  | str x t => unfold okD; exact t.of_ok
def atEq (v w : D) : Bool := PyData.eqv (toP v) (toP w)
theorem at_eq {own : Op2} {v w : D} {S : Store} (h : At v) (k : At w) : eqF own v w S = .ok (.bl (atEq v w)) S := eqF_ok 0 h.ok k.ok
theorem at_ne {own : Op2} {v w : D} {S : Store} (h : At v) (k : At w) : neF own v w S = .ok (.bl (!atEq v w)) S := neF_ok 0 h.ok k.ok
theorem at_self (v : D) : atEq v v = true := eqv_self v
abbrev wANY : List Nat := [97, 110, 121]
abbrev wNOT : List Nat := [110, 111, 116]
abbrev wAND : List Nat := [97, 110, 100]
abbrev wOR : List Nat := [111, 114]
abbrev KS : List (List Nat) := [[107, 105, 110, 100], [108, 101, 118, 101, 108], [97, 99, 99, 101, 115, 115], [111, 116, 104, 101, 114], [97, 114, 114, 97, 121], [119, 111, 114, 100]]
inductive Form where
  | any | nt (f : Form) | an (f g : Form) | or (f g : Form) | atm (k : Nat) (v : D)
def fd : Form → D
  | .any => .tup [.str wANY]
  | .nt f => .tup [.str wNOT, fd f]
  | .an f g => .tup [.str wAND, fd f, fd g]
  | .or f g => .tup [.str wOR, fd f, fd g]
  | .atm k v => .tup [.str (KS.getD k []), v]
def dp : Form → Nat
  | .any => 0
  | .nt f => dp f + 1
  | .an f g => max (dp f) (dp g) + 1
  | .or f g => max (dp f) (dp g) + 1
  | .atm _ _ => 0
def FOk : Form → Prop
  | .any => True
  | .nt f => FOk f
  | .an f g => FOk f ∧ FOk g
  | .or f g => FOk f ∧ FOk g
  | .atm k v => k < 6 ∧ At v
/-- a row's seven parts -/
structure Row (r : List D) : Prop where
  len : r.length = 7
  at_ : ∀ x ∈ r, At x
def rf (r : List D) (k : Nat) : D := r.getD k .non
theorem Row.get {r : List D} (h : Row r) {k : Nat} (hk : k < 7) : r[k]? = some (rf r k) ∧ At (rf r k) := by
  have hl : k < r.length := by rw [h.len]; exact hk
  have e : rf r k = r[k] := by unfold rf; rw [List.getD_eq_getElem?_getD, List.getElem?_eq_getElem hl]; rfl
  rw [e]
  exact ⟨List.getElem?_eq_getElem hl, h.at_ _ (List.getElem_mem hl)⟩
def holds (r : List D) : Form → Bool
  | .any => true
  | .nt f => !holds r f
  | .an f g => holds r f && holds r g
  | .or f g => holds r f || holds r g
  | .atm k v => atEq (rf r k) v
section
variable {S : Store} {n : Nat} {r : List D} {f g : Form} {v : D} {k : Nat} {call : Nat → FN}
theorem row_item (h : Row r) (hk : k < 7) : itemF (.tup r) (.int (k : Int)) S = .ok (rf r k) S := itemF_seq (xs := r) rfl (atI_nat (h.get hk).1)
theorem i0 {a : D} {l : List D} : itemF (.tup (a :: l)) (.int 0) S = .ok a S := itemF_seq (xs := a :: l) rfl (atI_nat (k := 0) rfl)
theorem i1 {a b : D} {l : List D} : itemF (.tup (a :: b :: l)) (.int 1) S = .ok b S := itemF_seq (xs := a :: b :: l) rfl (atI_nat (k := 1) rfl)
theorem i2 {a b c : D} {l : List D} : itemF (.tup (a :: b :: c :: l)) (.int 2) S = .ok c S := itemF_seq (xs := a :: b :: c :: l) rfl (atI_nat (k := 2) rfl)
theorem t_eq {w x : List Nat} {l : List D} {σ : En} (h1 : Txt w) (h2 : Txt x) : tOf (eBin (oEq call) (eBin itemF (eVar 0) (eC (.int 0))) (eC (.str x))) (some (.tup (.str w :: l)) :: σ) S = .ok (w == x) S := by
  simp only [tOf_ev, eBin_ev, eVar_0, eC_ev, bind_ok', i0, oEq, eqF_str h1 h2]
theorem seq_no' {T : MT} {A R : MS} {σ : En} (h : T σ S = .ok false S) : sSeq (sIf T A sNext) R σ S = R σ S := by
  simp only [sSeq_ev, sIf_ev, h]
  rfl
theorem seq_yes {T : MT} {A R : MS} {σ : En} {d : D} {S2 : Store} (h : T σ S = .ok true S) (k : A σ S = .rt d S2) : sSeq (sIf T A sNext) R σ S = .rt d S2 := by
  simp only [sSeq_ev, sIf_ev, h]
  simp only [if_true, k]
abbrev tAny : Txt wANY := Txt.all rfl
abbrev tNot' : Txt wNOT := Txt.all rfl
abbrev tAnd' : Txt wAND := Txt.all rfl
abbrev tOr' : Txt wOR := Txt.all rfl
theorem h_any {x : D} : m_13 call [some (.tup [.str wANY]), some x] S = .rt (.bl true) S := by kernel_rfl
theorem h_nt {x y : D} {b : Bool} (e : call 13 [x, y] S = .ok (.bl b) S) : m_13 call [some (.tup [.str wNOT, x]), some y] S = .rt (.bl !b) S := by
  unfold m_13
  rw [seq_no' (t_eq tNot' tAny)]
  refine seq_yes (t_eq tNot' tNot') ?_
  simp only [sRet_ev, eNot_ev, tOf_ev, eFn_ev, aList_cons, aList_nil, eBin_ev, eVar_0, eVar_s, eC_ev, bind_ok', i1, e]
theorem h_an {x x2 y : D} {b b2 : Bool} (e : call 13 [x, y] S = .ok (.bl b) S) (e2 : call 13 [x2, y] S = .ok (.bl b2) S) : m_13 call [some (.tup [.str wAND, x, x2]), some y] S = .rt (.bl (b && b2)) S := by
  unfold m_13
  rw [seq_no' (t_eq tAnd' tAny), seq_no' (t_eq tAnd' tNot')]
  refine seq_yes (t_eq tAnd' tAnd') ?_
  simp only [sRet_ev, eAnd_ev, tOf_ev, eFn_ev, aList_cons, aList_nil, eBin_ev, eVar_0, eVar_s, eC_ev, bind_ok', i1, i2, e, e2]
  cases b <;> rfl
theorem h_or {x x2 y : D} {b b2 : Bool} (e : call 13 [x, y] S = .ok (.bl b) S) (e2 : call 13 [x2, y] S = .ok (.bl b2) S) : m_13 call [some (.tup [.str wOR, x, x2]), some y] S = .rt (.bl (b || b2)) S := by
  unfold m_13
  rw [seq_no' (t_eq tOr' tAny), seq_no' (t_eq tOr' tNot'), seq_no' (t_eq tOr' tAnd')]
  refine seq_yes (t_eq tOr' tOr') ?_
  simp only [sRet_ev, eOr_ev, tOf_ev, eFn_ev, aList_cons, aList_nil, eBin_ev, eVar_0, eVar_s, eC_ev, bind_ok', i1, i2, e, e2]
  cases b <;> rfl
theorem h_atm {y : D} (hk : k < 6) : m_13 call [some (.tup [.str (KS.getD k []), v]), some y] S = sRet (eBin (oEq call) (eBin itemF (eVar 1) (eC (.int (k : Int)))) (eC v)) [some (.tup [.str (KS.getD k []), v]), some y] S := by
  match k, hk with
  | 0, _ => kernel_rfl
  | 1, _ => kernel_rfl
  | 2, _ => kernel_rfl
  | 3, _ => kernel_rfl
  | 4, _ => kernel_rfl
  | 5, _ => kernel_rfl
theorem holds_ok (h : Row r) : ∀ (F : Form) (n : Nat), FOk F → dp F < n → run n 13 [fd F, .tup r] S = .ok (.bl (holds r F)) S
  | F, 0, _, h2 => absurd h2 (by omega)
  | .any, n + 1, _, _ => by rw [run_13]; unfold fd; rw [h_any]; rfl
  | .nt f, n + 1, h1, h2 => by
    rw [run_13]
    unfold fd
    rw [h_nt (holds_ok h f n h1 (by unfold dp at h2; omega))]
    rfl
  | .an f g, n + 1, h1, h2 => by
    rw [run_13]
    unfold fd
    rw [h_an (holds_ok h f n h1.1 (by unfold dp at h2; omega)) (holds_ok h g n h1.2 (by unfold dp at h2; omega))]
    rfl
  | .or f g, n + 1, h1, h2 => by
    rw [run_13]
    unfold fd
    rw [h_or (holds_ok h f n h1.1 (by unfold dp at h2; omega)) (holds_ok h g n h1.2 (by unfold dp at h2; omega))]
    rfl
  | .atm k v, n + 1, h1, h2 => by
    rw [run_13]
    unfold fd
    rw [h_atm h1.1]
    simp only [sRet_ev, eBin_ev, eVar_0, eVar_s, eC_ev, bind_ok', row_item h (show k < 7 by have := h1.1; omega), oEq, at_eq (h.get (show k < 7 by have := h1.1; omega)).2 h1.2, fin_rt]
    rfl
def CondAt (S : Store) : Nat → Form → Prop
  | c, .any => S.get c = some (.ins 0 [(0, .tup [.str wANY])])
  | c, .nt f => ∃ a, S.get c = some (.ins 0 [(0, .tup [.str wNOT, .ref a])]) ∧ CondAt S a f
  | c, .an f g => ∃ a b, S.get c = some (.ins 0 [(0, .tup [.str wAND, .ref a, .ref b])]) ∧ CondAt S a f ∧ CondAt S b g
  | c, .or f g => ∃ a b, S.get c = some (.ins 0 [(0, .tup [.str wOR, .ref a, .ref b])]) ∧ CondAt S a f ∧ CondAt S b g
  | c, .atm k v => S.get c = some (.ins 0 [(0, .tup [.str (KS.getD k []), v])])
/-- instances stay -/
def Ki (S S2 : Store) : Prop := ∀ i c fs, S.get i = some (.ins c fs) → S2.get i = some (.ins c fs)
theorem Ki.of {S S2 : Store} (e : Ext S S2) : Ki S S2 := fun i c fs h => e i _ h
theorem Ki.trans {S S2 S3 : Store} (a : Ki S S2) (b : Ki S2 S3) : Ki S S3 := fun i c fs h => b i c fs (a i c fs h)
theorem CondAt.ki {S S2 : Store} (e : Ki S S2) : ∀ {c : Nat} {F : Form}, CondAt S c F → CondAt S2 c F
  | c, .any, h => e _ _ _ h
  | c, .nt f, ⟨a, h, k⟩ => ⟨a, e _ _ _ h, k.ki e⟩
  | c, .an f g, ⟨a, b, h, k, l⟩ => ⟨a, b, e _ _ _ h, k.ki e, l.ki e⟩
  | c, .or f g, ⟨a, b, h, k, l⟩ => ⟨a, b, e _ _ _ h, k.ki e, l.ki e⟩
  | c, .atm k v, h => e _ _ _ h
theorem CondAt.ext {S S2 : Store} (e : Ext S S2) {c : Nat} {F : Form} (h : CondAt S c F) : CondAt S2 c F := h.ki (Ki.of e)
theorem CondAt.ins {c : Nat} {F : Form} (h : CondAt S c F) : ∃ d, S.get c = some (.ins 0 [(0, d)]) := by
  cases F with
  | any => exact ⟨_, h⟩
  | nt f => obtain ⟨a, h, _⟩ := h; exact ⟨_, h⟩
  | an f g => obtain ⟨a, b, h, _⟩ := h; exact ⟨_, h⟩
  | or f g => obtain ⟨a, b, h, _⟩ := h; exact ⟨_, h⟩
  | atm k v => exact ⟨_, h⟩
theorem form_at {c : Nat} {d : D} (h : S.get c = some (.ins 0 [(0, d)])) : attrF (at_form call) 0 (.ref c) S = .ok d S := by
  unfold attrF
  simp [h, at_form]
/-- Condition(form) -/
theorem make_ok {d : D} : makeW 0 (run (n + 1) 1) [d] S = .ok (.ref S.size) (S.push (.ins 0 [(0, d)])) := by
  unfold makeW
  rw [run_1]
  unfold m_1 sFld
  have hg : (S.push (.ins 0 [])).get S.size = some (.ins 0 []) := Store.get_push_same
  simp only [eVar_s, eVar_0, bind_ok', fldSet, hg]
  rw [if_pos (by rfl)]
  simp only [fin_nx, bind_ok', Store.push_set]
  rfl
end
end L2.Mi.Pg

set_option Elab.async false
set_option linter.all false
set_option maxRecDepth 100000
set_option maxHeartbeats 1000000
namespace L2.Mi.Pg
open PySem
section
variable {S : Store} {n : Nat} {r : List D} {v : D} {call : Nat → FN}
theorem callI_ev {c : Nat} {d x : D} {mf : ME} {σ : En} {i : Nat} (hf : mf σ S = .ok (.ref c) S) (hc : S.get c = some (.ins 0 [(0, d)])) (hx : eVar i σ S = .ok x S) : eCallI (dCall call) mf (aList [eVar i]) σ S = call 3 [.ref c, x] S := by
  unfold eCallI
  simp only [hf, bind_ok', aList_cons, aList_nil, hx, hc, dCall]
theorem c_any {c : Nat} {y : D} (h : S.get c = some (.ins 0 [(0, .tup [.str wANY])])) : m_3 call [some (.ref c), some y, none, none, none, none] S = .rt (.bl true) S := by
  unfold m_3 sMatchP
  simp only [eUn_ev, eVar_0, bind_ok', form_at h]
  kernel_rfl
theorem c_nt {c a : Nat} {y d : D} {b : Bool} (h : S.get c = some (.ins 0 [(0, .tup [.str wNOT, .ref a])])) (ha : S.get a = some (.ins 0 [(0, d)])) (e : call 3 [.ref a, y] S = .ok (.bl b) S) : m_3 call [some (.ref c), some y, none, none, none, none] S = .rt (.bl !b) S := by
  have z : m_3 call [some (.ref c), some y, none, none, none, none] S = sRet (eNot (eCallI (dCall call) (eVar 2) (aList [eVar 1]))) [some (.ref c), some y, some (.ref a), none, none, none] S := by
    unfold m_3 sMatchP
    simp only [eUn_ev, eVar_0, bind_ok', form_at h]
    kernel_rfl
  rw [z]
  have k2 : eCallI (dCall call) (eVar 2) (aList [eVar 1]) [some (.ref c), some y, some (.ref a), none, none, none] S = call 3 [.ref a, y] S := callI_ev rfl ha rfl
  simp only [sRet_ev, eNot_ev, tOf_ev, k2, e, bind_ok']
theorem c_an {c a a2 : Nat} {y d d2 : D} {b b2 : Bool} (h : S.get c = some (.ins 0 [(0, .tup [.str wAND, .ref a, .ref a2])])) (ha : S.get a = some (.ins 0 [(0, d)])) (ha2 : S.get a2 = some (.ins 0 [(0, d2)])) (e : call 3 [.ref a, y] S = .ok (.bl b) S) (e2 : call 3 [.ref a2, y] S = .ok (.bl b2) S) :
    m_3 call [some (.ref c), some y, none, none, none, none] S = .rt (.bl (b && b2)) S := by
  have z : m_3 call [some (.ref c), some y, none, none, none, none] S = sRet (eAnd (eCallI (dCall call) (eVar 2) (aList [eVar 1])) (eCallI (dCall call) (eVar 3) (aList [eVar 1]))) [some (.ref c), some y, some (.ref a), some (.ref a2), none, none] S := by
    unfold m_3 sMatchP
    simp only [eUn_ev, eVar_0, bind_ok', form_at h]
    kernel_rfl
  rw [z]
  have k2 : eCallI (dCall call) (eVar 2) (aList [eVar 1]) [some (.ref c), some y, some (.ref a), some (.ref a2), none, none] S = call 3 [.ref a, y] S := callI_ev rfl ha rfl
  have k3 : eCallI (dCall call) (eVar 3) (aList [eVar 1]) [some (.ref c), some y, some (.ref a), some (.ref a2), none, none] S = call 3 [.ref a2, y] S := callI_ev rfl ha2 rfl
  simp only [sRet_ev, eAnd_ev, tOf_ev, k2, k3, e, e2, bind_ok']
  cases b <;> rfl
theorem c_or {c a a2 : Nat} {y d d2 : D} {b b2 : Bool} (h : S.get c = some (.ins 0 [(0, .tup [.str wOR, .ref a, .ref a2])])) (ha : S.get a = some (.ins 0 [(0, d)])) (ha2 : S.get a2 = some (.ins 0 [(0, d2)])) (e : call 3 [.ref a, y] S = .ok (.bl b) S) (e2 : call 3 [.ref a2, y] S = .ok (.bl b2) S) :
    m_3 call [some (.ref c), some y, none, none, none, none] S = .rt (.bl (b || b2)) S := by
  have z : m_3 call [some (.ref c), some y, none, none, none, none] S = sRet (eOr (eCallI (dCall call) (eVar 2) (aList [eVar 1])) (eCallI (dCall call) (eVar 3) (aList [eVar 1]))) [some (.ref c), some y, some (.ref a), some (.ref a2), none, none] S := by
    unfold m_3 sMatchP
    simp only [eUn_ev, eVar_0, bind_ok', form_at h]
    kernel_rfl
  rw [z]
  have k2 : eCallI (dCall call) (eVar 2) (aList [eVar 1]) [some (.ref c), some y, some (.ref a), some (.ref a2), none, none] S = call 3 [.ref a, y] S := callI_ev rfl ha rfl
  have k3 : eCallI (dCall call) (eVar 3) (aList [eVar 1]) [some (.ref c), some y, some (.ref a), some (.ref a2), none, none] S = call 3 [.ref a2, y] S := callI_ev rfl ha2 rfl
  simp only [sRet_ev, eOr_ev, tOf_ev, k2, k3, e, e2, bind_ok']
  cases b <;> rfl
theorem kidx_ok {k : Nat} {σ : En} {i : Nat} (hk : k < 6) (h : eVar i σ S = .ok (.str (KS.getD k [])) S) : eKidx KS (eVar i) σ S = .ok (.int (k : Int)) S := by
  unfold eKidx
  rw [h, bind_ok']
  match k, hk with
  | 0, _ => rfl
  | 1, _ => rfl
  | 2, _ => rfl
  | 3, _ => rfl
  | 4, _ => rfl
  | 5, _ => rfl
theorem c_atm {c k : Nat} {y : D} (hk : k < 6) (h : S.get c = some (.ins 0 [(0, .tup [.str (KS.getD k []), v])])) :
    m_3 call [some (.ref c), some y, none, none, none, none] S = sRet (eBin (oEq call) (eBin itemF (eVar 1) (eKidx KS (eVar 4))) (eVar 5)) [some (.ref c), some y, none, none, some (.str (KS.getD k [])), some v] S := by
  unfold m_3 sMatchP
  simp only [eUn_ev, eVar_0, bind_ok', form_at h]
  match k, hk with
  | 0, _ => kernel_rfl
  | 1, _ => kernel_rfl
  | 2, _ => kernel_rfl
  | 3, _ => kernel_rfl
  | 4, _ => kernel_rfl
  | 5, _ => kernel_rfl
/-- a condition asked of a row -/
theorem cond_ok (h : Row r) : ∀ (F : Form) (n c : Nat), FOk F → dp F < n → CondAt S c F → run n 3 [.ref c, .tup r] S = .ok (.bl (holds r F)) S
  | F, 0, _, _, h2, _ => absurd h2 (by omega)
  | .any, n + 1, c, _, _, hc => by rw [run_3, c_any hc]; rfl
  | .nt f, n + 1, c, h1, h2, ⟨a, hc, ka⟩ => by
    obtain ⟨d, hd⟩ := ka.ins
    rw [run_3, c_nt hc hd (cond_ok h f n a h1 (by unfold dp at h2; omega) ka)]
    rfl
  | .an f g, n + 1, c, h1, h2, ⟨a, b, hc, ka, kb⟩ => by
    obtain ⟨d, hd⟩ := ka.ins
    obtain ⟨d2, hd2⟩ := kb.ins
    rw [run_3, c_an hc hd hd2 (cond_ok h f n a h1.1 (by unfold dp at h2; omega) ka) (cond_ok h g n b h1.2 (by unfold dp at h2; omega) kb)]
    rfl
  | .or f g, n + 1, c, h1, h2, ⟨a, b, hc, ka, kb⟩ => by
    obtain ⟨d, hd⟩ := ka.ins
    obtain ⟨d2, hd2⟩ := kb.ins
    rw [run_3, c_or hc hd hd2 (cond_ok h f n a h1.1 (by unfold dp at h2; omega) ka) (cond_ok h g n b h1.2 (by unfold dp at h2; omega) kb)]
    rfl
  | .atm k v, n + 1, c, h1, h2, hc => by
    rw [run_3, c_atm h1.1 hc]
    have e4 : ∀ {σ : En}, eKidx KS (eVar 4) [some (.ref c), some (.tup r), none, none, some (.str (KS.getD k [])), some v] S = .ok (.int (k : Int)) S := kidx_ok h1.1 rfl
    have hk : k < 7 := by have := h1.1; omega
    simp only [sRet_ev, eBin_ev, eVar_0, eVar_s, bind_ok', e4 (σ := []), row_item h hk, oEq, at_eq (h.get hk).2 h1.2, fin_rt]
    rfl
theorem and_ok {a b : Nat} {d d2 : D} (ha : S.get a = some (.ins 0 [(0, d)])) (hb : S.get b = some (.ins 0 [(0, d2)])) : oBitAnd (run (n + 2)) (.ref a) (.ref b) S = .ok (.ref S.size) (S.push (.ins 0 [(0, .tup [.str wAND, .ref a, .ref b])])) := by
  unfold oBitAnd ownB
  simp only [ha, hb, dBitAnd, if_true]
  rw [run_4]
  unfold m_4
  simp only [sRet_ev, eFn_ev, eTup_ev, aList_cons, aList_nil, eC_ev, eVar_0, eVar_s, bind_ok', make_ok, fin_rt]
theorem or_ok {a b : Nat} {d d2 : D} (ha : S.get a = some (.ins 0 [(0, d)])) (hb : S.get b = some (.ins 0 [(0, d2)])) : oBitOr (run (n + 2)) (.ref a) (.ref b) S = .ok (.ref S.size) (S.push (.ins 0 [(0, .tup [.str wOR, .ref a, .ref b])])) := by
  unfold oBitOr ownB
  simp only [ha, hb, dBitOr, if_true]
  rw [run_5]
  unfold m_5
  simp only [sRet_ev, eFn_ev, eTup_ev, aList_cons, aList_nil, eC_ev, eVar_0, eVar_s, bind_ok', make_ok, fin_rt]
theorem inv_ok {a : Nat} {d : D} (ha : S.get a = some (.ins 0 [(0, d)])) : oInv (run (n + 2)) (.ref a) S = .ok (.ref S.size) (S.push (.ins 0 [(0, .tup [.str wNOT, .ref a])])) := by
  unfold oInv invF
  simp only [ha, dInv]
  rw [run_6]
  unfold m_6
  simp only [sRet_ev, eFn_ev, eTup_ev, aList_cons, aList_nil, eC_ev, eVar_0, eVar_s, bind_ok', make_ok, fin_rt]
end
end L2.Mi.Pg

set_option Elab.async false
set_option linter.all false
set_option maxRecDepth 100000
set_option maxHeartbeats 1000000
namespace L2.Mi.Pg
open PySem
def joinF : Option Form → Form → Form
  | none, f => f
  | some g, f => .an g f
/-- what where gives, or the word that it refuses -/
def wh : Option Form → List (List Nat × D) → Form ⊕ List Nat
  | acc, [] => .inl (acc.getD .any)
  | acc, (w, v) :: r => match KS.findIdx? (fun x => x == w) with
    | some k => wh (some (joinF acc (.atm k v))) r
    | none => .inr w
def AccOk (S : Store) : Option Form → D → Prop
  | none, d => d = .non
  | some F, d => ∃ c, d = .ref c ∧ CondAt S c F
def kvD (kvs : List (List Nat × D)) : List (D × D) := kvs.map fun p => (.str p.1, p.2)
theorem eqKD_str {a b : List Nat} : eqKD (.str a) (.str b) = (a == b) := rfl
theorem valD_kv : ∀ {kvs : List (List Nat × D)} {p : List Nat × D}, (kvs.map (·.1)).Nodup → p ∈ kvs → valD (kvD kvs) (.str p.1) = some p.2
  | [], _, _, h => absurd h List.not_mem_nil
  | q :: kvs, p, hn, h => by
    obtain ⟨h1, h2⟩ := List.nodup_cons.mp (show (q.1 :: kvs.map (·.1)).Nodup from hn)
    unfold valD kvD
    rw [List.map_cons, List.find?_cons, eqKD_str]
    by_cases e : q.1 = p.1
    · have : (q.1 == p.1) = true := by simpa using e
      rw [this]
      rcases List.mem_cons.mp h with z | z
      · rw [z]; rfl
      · exact absurd (List.mem_map_of_mem (f := (·.1)) z) (by rw [e] at h1; exact h1)
    · have : (q.1 == p.1) = false := by simpa using e
      rw [this]
      rcases List.mem_cons.mp h with z | z
      · exact absurd (by rw [z]) e
      · exact valD_kv h2 z
theorem lockX_sat {i q : Nat} {m : MS} {kv : List (D × D)} {σ : En} {S : Store} {w : Wt} (h1 : σ[i]? = some (some (.ref q))) (h2 : S.get q = some (.dic false kv))
    (h : (m σ (S.set q (.lck (.dic false kv)))).sat ⟨fun σ1 S1 => w.n σ1 (S1.set q (.dic false kv)), fun d S1 => w.r d (S1.set q (.dic false kv)), w.e, fun _ _ => False, fun _ _ => False⟩) : (sLockX i m σ S).sat w := by
  unfold sLockX
  simp only [h1, h2]
  cases e : m σ (S.set q (.lck (.dic false kv))) with
  | nx σ1 S1 => rw [e] at h; exact h
  | rt d S1 => rw [e] at h; exact h
  | exc x σ1 S1 => rw [e] at h; exact h
  | bk σ1 S1 => rw [e] at h; exact h.elim
  | ct σ1 S1 => rw [e] at h; exact h.elim
  | bad => rw [e] at h; exact h.elim
theorem ext_set {S S1 : Store} {q : Nat} {o : Ob} (e : Ext S S1) (h : S.size ≤ q) : Ext S (S1.set q o) := fun i u hu => by
  have := Store.get_lt hu
  rw [Store.get_set_ne (by omega)]
  exact e i u hu
theorem ki_set {S : Store} {q : Nat} {o o2 : Ob} (h : S.get q = some (.lck o)) : Ki S (S.set q o2) := fun i c fs hi => by
  by_cases e : q = i
  · subst e
    rw [h] at hi
    cases hi
  · rw [Store.get_set_ne e]
    exact hi
section
variable {S : Store} {n q k : Nat} {v : D} {w : List Nat} {kv : List (D × D)}
def wBody (call : Nat → FN) : MS := sSeq (sIf (tOf (eBin (inF true) (eVar 2) (eC (.kt [(.str [107, 105, 110, 100]), (.str [108, 101, 118, 101, 108]), (.str [97, 99, 99, 101, 115, 115]), (.str [111, 116, 104, 101, 114]), (.str [97, 114, 114, 97, 121]), (.str [119, 111, 114, 100])])))) (sRaise 1 1 (eVar 2)) (sNext))
    (sSeq (sSet 3 (eFn (makeW 0 (call 1)) (aList [eTup [eVar 2, eBin dgetL (eVar 0) (eVar 2)]])))
    (sSet 1 (eIf (tOf (eBin (isF false) (eVar 1) (eC .non))) (eVar 3) (eBin (oBitAnd call) (eVar 1) (eVar 3)))))
theorem m8 {call : Nat → FN} : m_8 call = sSeq (sSet 1 (eC .non)) (sSeq (sLockX 0 (sFor (iKy (eVar 0)) (gName 2) (wBody call) 1000)) (sRet (eIf (tOf (eBin (isF false) (eVar 1) (eC .non))) (eFn (makeW 0 (call 1)) (aList [eTup [eC (.str wANY)]])) (eVar 1)))) := (rfl)
theorem in_ks {d : D} (hd : d = .kt (KS.map D.str)) : inF true (.str w) d S = .ok (.bl !(KS.any (· == w))) S := by
  subst hd
  rw [inF_strs (ks := KS) rfl]
  rfl
theorem any_idx {w : List Nat} : KS.any (· == w) = (KS.findIdx? (fun x => x == w)).isSome := by
  cases e : KS.findIdx? (fun x => x == w) with
  | none =>
    rw [List.findIdx?_eq_none_iff] at e
    rw [List.any_eq_false.mpr fun x hx => by simpa using e x hx]
    rfl
  | some k =>
    obtain ⟨h1, h2, _⟩ := List.findIdx?_eq_some_iff_getElem.mp e
    rw [List.any_eq_true.mpr ⟨KS[k], List.getElem_mem h1, h2⟩]
    rfl
theorem idx_get {w : List Nat} {k : Nat} (e : KS.findIdx? (fun x => x == w) = some k) : k < 6 ∧ KS.getD k [] = w := by
  obtain ⟨h1, h2, _⟩ := List.findIdx?_eq_some_iff_getElem.mp e
  refine ⟨h1, ?_⟩
  rw [List.getD_eq_getElem?_getD, List.getElem?_eq_getElem h1]
  exact eq_of_beq h2
theorem isN_non : isF false .non .non S = .ok (.bl true) S := rfl
theorem isN_ref {c : Nat} : isF false (.ref c) .non S = .ok (.bl false) S := rfl
/-- one word -/
theorem turn_ok {acc : Option Form} {d : D} {o3 : Option D} (ha : AccOk S acc d) (hl : S.get q = some (.lck (.dic false kv))) (hv : valD kv (.str w) = some v) {W : Wt}
    (h1 : ∀ k, KS.findIdx? (fun x => x == w) = some k → ∀ c S2 o, Ext S S2 → CondAt S2 c (joinF acc (.atm k v)) → W.n [some (.ref q), some (.ref c), some (.str w), o] S2)
    (h2 : KS.findIdx? (fun x => x == w) = none → W.e ⟨1, [(1, .str w)]⟩ S) : (wBody (run (n + 2)) [some (.ref q), some d, some (.str w), o3] S).sat W := by
  unfold wBody
  have e0 : tOf (eBin (inF true) (eVar 2) (eC (.kt [(.str [107, 105, 110, 100]), (.str [108, 101, 118, 101, 108]), (.str [97, 99, 99, 101, 115, 115]), (.str [111, 116, 104, 101, 114]), (.str [97, 114, 114, 97, 121]), (.str [119, 111, 114, 100])]))) [some (.ref q), some d, some (.str w), o3] S = .ok (!(KS.any (· == w))) S := by
    have hin : inF true (.str w) (.kt [(.str [107, 105, 110, 100]), (.str [108, 101, 118, 101, 108]), (.str [97, 99, 99, 101, 115, 115]), (.str [111, 116, 104, 101, 114]), (.str [97, 114, 114, 97, 121]), (.str [119, 111, 114, 100])]) S = .ok (.bl !(KS.any (· == w))) S := in_ks rfl
    simp only [tOf_ev, eBin_ev, eVar_s, eVar_0, eC_ev, bind_ok', hin]
  rw [sat_seq, sat_if, e0, any_idx]
  cases ei : KS.findIdx? (fun x => x == w) with
  | none =>
    simp only [Option.isSome_none, Bool.not_false, sat_ok, if_true, sat_raise, eVar_s, eVar_0]
    exact h2 ei
  | some k =>
    obtain ⟨hk, hw⟩ := idx_get ei
    have ed : dgetL (.ref q) (.str w) S = .ok v S := by
      unfold dgetL dicL
      simp only [hl, keyD, hv]
    simp only [Option.isSome_some, Bool.not_true, sat_ok, Bool.false_eq_true, if_false, sat_next, sat_seq, sat_set, eFn_ev, aList_cons, aList_nil, eTup_ev, eVar_s, eVar_0, eBin_ev, bind_ok', ed, make_ok (n := n + 1), List.set_cons_succ, List.set_cons_zero]
    have hc : CondAt (S.push (.ins 0 [(0, .tup [.str w, v])])) S.size (.atm k v) := by
      unfold CondAt
      rw [hw]
      exact Store.get_push_same
    have ex : Ext S (S.push (.ins 0 [(0, .tup [.str w, v])])) := Ext.push
    cases acc with
    | none =>
      obtain rfl : d = .non := ha
      simp only [eIf_ev, tOf_ev, eBin_ev, eVar_s, eVar_0, eC_ev, bind_ok', isN_non, if_true, sat_ok]
      exact h1 k ei _ _ _ ex hc
    | some F =>
      obtain ⟨c, rfl, hF⟩ := ha
      have hF2 := hF.ext ex
      obtain ⟨d1, g1⟩ := hF2.ins
      obtain ⟨d2, g2⟩ := hc.ins
      simp only [eIf_ev, tOf_ev, eBin_ev, eVar_s, eVar_0, eC_ev, bind_ok', isN_ref, Bool.false_eq_true, if_false, and_ok g1 g2, sat_ok]
      refine h1 k ei _ _ _ (ex.trans Ext.push) ⟨c, S.size, Store.get_push_same, hF2.ext Ext.push, hc.ext Ext.push⟩
/-- where(..) -/
theorem where_ok (kvs : List (List Nat × D)) (hn : (kvs.map (·.1)).Nodup) (hl : kvs.length < 1000) :
    (kwF (kvs.map (·.1)) (run (n + 3) 20) (kvs.map (·.2)) S).sat (fun v S2 => Ext S S2 ∧ ∃ F c, wh none kvs = .inl F ∧ v = .ref c ∧ CondAt S2 c F) (fun x S2 => Ext S S2 ∧ ∃ w, wh none kvs = .inr w ∧ x = ⟨1, [(1, .str w)]⟩) := by
  unfold kwF
  rw [if_pos (by simp)]
  have ez : ((kvs.map (·.1)).map D.str).zip (kvs.map (·.2)) = kvD kvs := by
    unfold kvD
    rw [List.map_map, List.zip_map']
    rfl
  rw [ez, run_8]
  refine sat_fin ?_
  rw [m8]
  simp only [sat_seq, sat_set, eC_ev, sat_ok, List.set_cons_succ, List.set_cons_zero]
  have hq : (S.push (.dic false (kvD kvs))).get S.size = some (.dic false (kvD kvs)) := Store.get_push_same
  have hs : S.size < (S.push (.dic false (kvD kvs))).size := by rw [Store.size_push]; omega
  refine lockX_sat rfl hq ?_
  have hq2 : ((S.push (.dic false (kvD kvs))).set S.size (.lck (.dic false (kvD kvs)))).get S.size = some (.lck (.dic false (kvD kvs))) := Store.get_set_same hs
  have hk : (kvD kvs).map (·.1) = kvs.map fun p => D.str p.1 := by unfold kvD; rw [List.map_map]; rfl
  refine for_sat (ds := kvs.map fun p => D.str p.1) (fun ds σ S2 => ∃ rest acc d o2 o3, ds = rest.map (fun p => D.str p.1) ∧ wh none kvs = wh acc rest ∧ (∀ p ∈ rest, p ∈ kvs) ∧ σ = [some (.ref S.size), some d, o2, o3] ∧ AccOk S2 acc d ∧ S2.get S.size = some (.lck (.dic false (kvD kvs))) ∧ Ext S S2)
    (hk ▸ walk_ky (m := eVar 0) (n := S.size) rfl hq2) (by rw [List.length_map]; exact hl) ⟨kvs, none, .non, none, none, rfl, rfl, fun p h => h, rfl, rfl, hq2, ext_set Ext.push (Nat.le_refl _)⟩ ?_ ?_
  · rintro d ds σ S2 ⟨rest, acc, da, o2, o3, hds, hw, hm, rfl, hacc, hlk, hext⟩
    cases rest with
    | nil => cases hds
    | cons p rest =>
      rw [List.map_cons] at hds
      obtain ⟨rfl, rfl⟩ := List.cons.inj hds
      simp only [gName_ev, sat_ok, List.set_cons_succ, List.set_cons_zero]
      refine turn_ok (v := p.2) hacc hlk (valD_kv hn (hm p (by simp))) (fun k ek c S3 o ex hc => ?_) fun ek => ?_
      · refine ⟨rest, some (joinF acc (.atm k p.2)), .ref c, _, _, rfl, ?_, fun p' h' => hm p' (by simp [h']), rfl, ⟨c, rfl, hc⟩, ex _ _ hlk, hext.trans ex⟩
        rw [hw]
        obtain ⟨p1, p2⟩ := p
        show wh acc ((p1, p2) :: rest) = _
        conv => lhs; unfold wh
        rw [show KS.findIdx? (fun x => x == p1) = some k from ek]
      · refine ⟨hext, p.1, ?_, rfl⟩
        rw [hw]
        obtain ⟨p1, p2⟩ := p
        show wh acc ((p1, p2) :: rest) = _
        conv => lhs; unfold wh
        rw [show KS.findIdx? (fun x => x == p1) = none from ek]
  · rintro σ S2 ⟨rest, acc, d, o2, o3, hds, hw, hm, rfl, hacc, hlk, hext⟩
    have hr : rest = [] := by
      cases rest with
      | nil => rfl
      | cons _ _ => cases hds
    subst hr
    have hext2 : Ext S (S2.set S.size (.dic false (kvD kvs))) := ext_set hext (Nat.le_refl _)
    have ki : Ki S2 (S2.set S.size (.dic false (kvD kvs))) := ki_set hlk
    dsimp only
    cases acc with
    | none =>
      obtain rfl : d = .non := hacc
      simp only [sat_ret, eIf_ev, tOf_ev, eBin_ev, eVar_s, eVar_0, eC_ev, bind_ok', isN_non, if_true, eFn_ev, aList_cons, aList_nil, eTup_ev, make_ok (n := n + 1), sat_ok]
      exact ⟨hext2.trans Ext.push, .any, _, hw, rfl, Store.get_push_same⟩
    | some F =>
      obtain ⟨c, rfl, hF⟩ := hacc
      simp only [sat_ret, eIf_ev, tOf_ev, eBin_ev, eVar_s, eVar_0, eC_ev, bind_ok', isN_ref, Bool.false_eq_true, if_false, sat_ok]
      exact ⟨hext2, F, c, hw, rfl, hF.ki ki⟩
end
end L2.Mi.Pg

set_option Elab.async false
set_option linter.all false
set_option maxRecDepth 100000
set_option maxHeartbeats 1000000
namespace L2.Mi.Pg
open PySem
/-- what a made condition is -/
abbrev MadeQ (S : Store) (F : Form) : D → Store → Prop := fun d S2 => Ext S S2 ∧ ∃ c, d = .ref c ∧ CondAt S2 c F
section
variable {S : Store} {n k : Nat} {v : D} {E : Xn → Store → Prop} {r : List D}
theorem where_is (kvs : List (List Nat × D)) (hn : (kvs.map (·.1)).Nodup) (hl : kvs.length < 1000) {F : Form} (h : wh none kvs = .inl F) : (kwF (kvs.map (·.1)) (run (n + 3) 20) (kvs.map (·.2)) S).sat (MadeQ S F) E := by
  refine (where_ok (n := n) kvs hn hl).imp (fun d S2 ⟨e, F2, c, h1, h2, h3⟩ => ?_) fun x S2 ⟨_, w, h1, _⟩ => ?_
  · rw [h] at h1
    cases h1
    exact ⟨e, c, h2, h3⟩
  · rw [h] at h1
    cases h1
theorem sat_seq_no {T : MT} {A R : MS} {σ : En} {w : Wt} (h : T σ S = .ok false S) (k : (R σ S).sat w) : (sSeq (sIf T A sNext) R σ S).sat w := by
  rw [seq_no' h]
  exact k
theorem sat_seq_yes {T : MT} {m : ME} {R : MS} {σ : En} {w : Wt} (h : T σ S = .ok true S) (k : (m σ S).sat w.r w.e) : (sSeq (sIf T (sRet m) sNext) R σ S).sat w := by
  rw [sat_seq, sat_if, h]
  simp only [sat_ok, if_true, sat_ret]
  exact k
theorem a_eq {call : Nat → FN} {w x : List Nat} {σ : En} (h1 : Txt w) (h2 : Txt x) : tOf (eBin (oEq call) (eVar 0) (eC (.str x))) (some (.str w) :: σ) S = .ok (w == x) S := by
  simp only [tOf_ev, eBin_ev, eVar_0, eC_ev, bind_ok', oEq, eqF_str h1 h2]
theorem kw1 {call : Nat → FN} {w w2 : List Nat} {σ : D} {Q : D → Store → Prop} (h : (kwF [w] (call 20) [v] S).sat Q E) : (eKw [w] (call 20) [eVar 1] [some σ, some v] S).sat Q E := by
  unfold eKw
  simp only [eFn_ev, aList_cons, aList_nil, eVar_s, eVar_0, bind_ok']
  exact h
theorem atom_ok (hk : k < 6) : (run (n + 4) 16 [.str (KS.getD k []), v] S).sat (MadeQ S (.atm k v)) E := by
  rw [run_16]
  refine sat_fin ?_
  unfold m_16
  have t0 : Txt [107, 105, 110, 100] := Txt.all rfl
  have t1 : Txt [108, 101, 118, 101, 108] := Txt.all rfl
  have t2 : Txt [97, 99, 99, 101, 115, 115] := Txt.all rfl
  have t3 : Txt [111, 116, 104, 101, 114] := Txt.all rfl
  have t4 : Txt [97, 114, 114, 97, 121] := Txt.all rfl
  have t5 : Txt [119, 111, 114, 100] := Txt.all rfl
  have one : ∀ (w : List Nat) (F : Form), wh none [(w, v)] = .inl F → (kwF [w] (run (n + 3) 20) [v] S).sat (MadeQ S F) E := fun w F h => where_is (n := n) [(w, v)] (by simp) (by simp) h
  match k, hk with
  | 0, _ => exact sat_seq_yes (a_eq t0 t0) (kw1 (w2 := []) (one _ _ rfl))
  | 1, _ => exact sat_seq_no (a_eq t1 t0) (sat_seq_yes (a_eq t1 t1) (kw1 (w2 := []) (one _ _ rfl)))
  | 2, _ => exact sat_seq_no (a_eq t2 t0) (sat_seq_no (a_eq t2 t1) (sat_seq_yes (a_eq t2 t2) (kw1 (w2 := []) (one _ _ rfl))))
  | 3, _ => exact sat_seq_no (a_eq t3 t0) (sat_seq_no (a_eq t3 t1) (sat_seq_no (a_eq t3 t2) (sat_seq_yes (a_eq t3 t3) (kw1 (w2 := []) (one _ _ rfl)))))
  | 4, _ =>
    refine sat_seq_no (a_eq t4 t0) (sat_seq_no (a_eq t4 t1) (sat_seq_no (a_eq t4 t2) (sat_seq_no (a_eq t4 t3) ?_)))
    rw [sat_ret]
    have e4 : tOf (eBin (oEq (run (n + 3))) (eVar 0) (eC (.str [97, 114, 114, 97, 121]))) [some (.str (KS.getD 4 [])), some v] S = .ok true S := a_eq t4 t4
    simp only [eIf_ev, e4, bind_ok', if_true]
    exact kw1 (w2 := []) (one _ _ rfl)
  | 5, _ =>
    refine sat_seq_no (a_eq t5 t0) (sat_seq_no (a_eq t5 t1) (sat_seq_no (a_eq t5 t2) (sat_seq_no (a_eq t5 t3) ?_)))
    rw [sat_ret]
    have e5 : tOf (eBin (oEq (run (n + 3))) (eVar 0) (eC (.str [97, 114, 114, 97, 121]))) [some (.str (KS.getD 5 [])), some v] S = .ok false S := a_eq t5 t4
    simp only [eIf_ev, e5, bind_ok', Bool.false_eq_true, if_false]
    exact kw1 (w2 := []) (one _ _ rfl)
theorem in2 {call : Nat → FN} {w : List Nat} {l : List D} {σ : En} : tOf (eBin (inF false) (eBin itemF (eVar 0) (eC (.int 0))) (eLv [eC (.str wAND), eC (.str wOR)])) (some (.tup (.str w :: l)) :: σ) S = .ok ([wAND, wOR].any (· == w)) S := by
  have h : inF false (.str w) (.lv ([wAND, wOR].map D.str)) S = .ok (.bl ([wAND, wOR].any (· == w))) S := by
    rw [inF_strs (ks := [wAND, wOR]) rfl]
    rfl
  have h2 : inF false (.str w) (.lv [.str wAND, .str wOR]) S = .ok (.bl ([wAND, wOR].any (· == w))) S := h
  simp only [tOf_ev, eBin_ev, eVar_0, eC_ev, eLv_ev, aList_cons, aList_nil, bind_ok', i0, h2]
/-- _law_built -/
theorem built_ok : ∀ (F : Form) (m : Nat) (S : Store), FOk F → dp F + 5 ≤ m → (run (m + 1) 17 [fd F] S).sat (MadeQ S F) E
  | .any, m, S, _, hm => by
    obtain ⟨n, rfl⟩ : ∃ n, m = n + 3 := ⟨m - 3, by unfold dp at hm; omega⟩
    rw [run_17]
    refine sat_fin ?_
    unfold m_17 fd
    refine sat_seq_yes (t_eq tAny tAny) ?_
    simp only [eFn_ev, aList_nil, bind_ok']
    exact where_is (n := n) [] List.nodup_nil (by simp) rfl
  | .nt f, m, S, h1, hm => by
    obtain ⟨n, rfl⟩ : ∃ n, m = n + 2 := ⟨m - 2, by unfold dp at hm; omega⟩
    rw [run_17]
    refine sat_fin ?_
    unfold m_17 fd
    refine sat_seq_no (t_eq tNot' tAny) (sat_seq_yes (t_eq tNot' tNot') ?_)
    simp only [eUn_ev, eFn_ev, aList_cons, aList_nil, eBin_ev, eVar_0, eC_ev, bind_ok', i1, sat_bind]
    refine (built_ok f (n + 1) S h1 (by unfold dp at hm; omega)).imp (fun d S2 ⟨e, c, hd, hc⟩ => ?_) fun _ _ h => h
    subst hd
    obtain ⟨d1, g1⟩ := hc.ins
    rw [inv_ok g1]
    exact ⟨e.trans Ext.push, _, rfl, c, Store.get_push_same, hc.ext Ext.push⟩
  | .an f g, m, S, h1, hm => by
    obtain ⟨n, rfl⟩ : ∃ n, m = n + 2 := ⟨m - 2, by unfold dp at hm; omega⟩
    rw [run_17]
    refine sat_fin ?_
    unfold m_17 fd
    refine sat_seq_no (t_eq tAnd' tAny) (sat_seq_no (t_eq tAnd' tNot') ?_)
    rw [sat_seq, sat_if, in2 (call := run (n + 2))]
    have hy : ([wAND, wOR].any (· == wAND)) = true := rfl
    simp only [hy, sat_ok, if_true, sat_seq, sat_par, eFn_ev, aList_cons, aList_nil, eBin_ev, eVar_0, eC_ev, bind_ok', i1, i2]
    refine (built_ok f (n + 1) S h1.1 (by unfold dp at hm; omega)).imp (fun d S2 ⟨e, c, hd, hc⟩ => ?_) fun _ _ h => h
    subst hd
    refine (built_ok g (n + 1) S2 h1.2 (by unfold dp at hm; omega)).imp (fun d S3 ⟨e2, c2, hd, hc2⟩ => ?_) fun _ _ h => h
    subst hd
    have hc' := hc.ext e2
    obtain ⟨d1, g1⟩ := hc'.ins
    obtain ⟨d2, g2⟩ := hc2.ins
    have ht : tOf (eBin (oEq (run (n + 2))) (eBin itemF (eVar 0) (eC (.int 0))) (eC (.str [97, 110, 100]))) [some (.tup [.str wAND, fd f, fd g]), some (.ref c), some (.ref c2)] S3 = .ok true S3 := t_eq tAnd' tAnd'
    simp only [List.set_cons_succ, List.set_cons_zero, sat_ret, eIf_ev, ht, bind_ok', if_true, eBin_ev, eVar_s, eVar_0, and_ok g1 g2, sat_ok]
    exact ⟨(e.trans e2).trans Ext.push, _, rfl, c, c2, Store.get_push_same, hc'.ext Ext.push, hc2.ext Ext.push⟩
  | .or f g, m, S, h1, hm => by
    obtain ⟨n, rfl⟩ : ∃ n, m = n + 2 := ⟨m - 2, by unfold dp at hm; omega⟩
    rw [run_17]
    refine sat_fin ?_
    unfold m_17 fd
    refine sat_seq_no (t_eq tOr' tAny) (sat_seq_no (t_eq tOr' tNot') ?_)
    rw [sat_seq, sat_if, in2 (call := run (n + 2))]
    have hy : ([wAND, wOR].any (· == wOR)) = true := rfl
    simp only [hy, sat_ok, if_true, sat_seq, sat_par, eFn_ev, aList_cons, aList_nil, eBin_ev, eVar_0, eC_ev, bind_ok', i1, i2]
    refine (built_ok f (n + 1) S h1.1 (by unfold dp at hm; omega)).imp (fun d S2 ⟨e, c, hd, hc⟩ => ?_) fun _ _ h => h
    subst hd
    refine (built_ok g (n + 1) S2 h1.2 (by unfold dp at hm; omega)).imp (fun d S3 ⟨e2, c2, hd, hc2⟩ => ?_) fun _ _ h => h
    subst hd
    have hc' := hc.ext e2
    obtain ⟨d1, g1⟩ := hc'.ins
    obtain ⟨d2, g2⟩ := hc2.ins
    have ht : tOf (eBin (oEq (run (n + 2))) (eBin itemF (eVar 0) (eC (.int 0))) (eC (.str [97, 110, 100]))) [some (.tup [.str wOR, fd f, fd g]), some (.ref c), some (.ref c2)] S3 = .ok false S3 := t_eq tOr' tAnd'
    simp only [List.set_cons_succ, List.set_cons_zero, sat_ret, eIf_ev, ht, bind_ok', Bool.false_eq_true, if_false, eBin_ev, eVar_s, eVar_0, or_ok g1 g2, sat_ok]
    exact ⟨(e.trans e2).trans Ext.push, _, rfl, c, c2, Store.get_push_same, hc'.ext Ext.push, hc2.ext Ext.push⟩
  | .atm k v, m, S, h1, hm => by
    obtain ⟨n, rfl⟩ : ∃ n, m = n + 4 := ⟨m - 4, by unfold dp at hm; omega⟩
    rw [run_17]
    refine sat_fin ?_
    unfold m_17 fd
    have tk : Txt (KS.getD k []) := by
      match k, h1.1 with
      | 0, _ => exact Txt.all rfl
      | 1, _ => exact Txt.all rfl
      | 2, _ => exact Txt.all rfl
      | 3, _ => exact Txt.all rfl
      | 4, _ => exact Txt.all rfl
      | 5, _ => exact Txt.all rfl
    have n1 : (KS.getD k [] == wANY) = false := by
      match k, h1.1 with
      | 0, _ => rfl
      | 1, _ => rfl
      | 2, _ => rfl
      | 3, _ => rfl
      | 4, _ => rfl
      | 5, _ => rfl
    have n2 : (KS.getD k [] == wNOT) = false := by
      match k, h1.1 with
      | 0, _ => rfl
      | 1, _ => rfl
      | 2, _ => rfl
      | 3, _ => rfl
      | 4, _ => rfl
      | 5, _ => rfl
    have n3 : ([wAND, wOR].any (· == KS.getD k [])) = false := by
      match k, h1.1 with
      | 0, _ => rfl
      | 1, _ => rfl
      | 2, _ => rfl
      | 3, _ => rfl
      | 4, _ => rfl
      | 5, _ => rfl
    refine sat_seq_no (n1 ▸ t_eq tk tAny) (sat_seq_no (n2 ▸ t_eq tk tNot') (sat_seq_no (n3 ▸ in2 (call := run (n + 4))) ?_))
    simp only [sat_ret, eFn_ev, aList_cons, aList_nil, eBin_ev, eVar_0, eC_ev, bind_ok', i0, i1]
    exact atom_ok h1.1
end
end L2.Mi.Pg

set_option Elab.async false
set_option linter.all false
set_option maxRecDepth 100000
set_option maxHeartbeats 1000000
namespace L2.Mi.Pg
open PySem
section
variable {S : Store} {n i k : Nat} {v : D} {E : Xn → Store → Prop}
/-- joined by and alone -/
def AA : Form → Prop
  | .an f g => AA f ∧ AA g
  | .atm k v => k < 6 ∧ At v
  | _ => False
theorem parts_ok {c : Nat} {d : D} {σ : En} (h : S.get c = some (.ins 0 [(0, d)])) : eMeth (me_parts (run (n + 1))) 2 (eVar 0) (aList []) (some (.ref c) :: σ) S = .ok d S := by
  unfold eMeth
  simp only [eVar_0, bind_ok', h, me_parts]
  have e : ([(0, d)] : List (Nat × D)).lookup 2 = none := rfl
  simp only [e, aList_nil, bind_ok']
  rw [run_2]
  unfold m_2
  simp only [sRet_ev, eUn_ev, eVar_0, bind_ok', form_at h, fin_rt]
theorem set_first {j : Nat} {m : ME} {R : MS} {σ : En} {d : D} {S2 : Store} (h : m σ S = .ok d S2) : sSeq (sSet j m) R σ S = R (σ.set j (some d)) S2 := by
  unfold sSeq sSet sAsg gName
  rw [h]
theorem l_an {call : Nat → FN} {c : Nat} {x y a b : D} (h1 : call 14 [a, x] S = .ok (.bl true) S) (h2 : call 14 [b, y] S = .ok (.bl true) S) (hp : eMeth (me_parts call) 2 (eVar 0) (aList []) [some (.ref c), some (.tup [.str wAND, x, y]), none] S = .ok (.tup [.str wAND, a, b]) S) :
    m_14 call [some (.ref c), some (.tup [.str wAND, x, y]), none] S = .rt (.bl true) S := by
  unfold m_14
  rw [set_first hp]
  simp only [List.set_cons_succ, List.set_cons_zero]
  rw [seq_no' (show _ = Res.ok false S by kernel_rfl), seq_no' (show _ = Res.ok false S by kernel_rfl)]
  refine seq_yes (show _ = Res.ok true S by kernel_rfl) ?_
  simp only [sRet_ev, eAnd_ev, tOf_ev, eFn_ev, aList_cons, aList_nil, eBin_ev, eVar_s, eVar_0, eC_ev, bind_ok', i1, i2, h1, h2, if_true]
theorem l_atm {call : Nat → FN} {c : Nat} (hk : k < 6) (hv : At v) (hp : eMeth (me_parts call) 2 (eVar 0) (aList []) [some (.ref c), some (.tup [.str (KS.getD k []), v]), none] S = .ok (.tup [.str (KS.getD k []), v]) S) :
    m_14 call [some (.ref c), some (.tup [.str (KS.getD k []), v]), none] S = .rt (.bl true) S := by
  unfold m_14
  rw [set_first hp]
  simp only [List.set_cons_succ, List.set_cons_zero]
  have ok : okD 1 (.tup [.str (KS.getD k []), v]) = true := by
    have h0 := hv.ok
    unfold okD okDs okDs okDs
    rw [h0]
    match k, hk with
    | 0, _ => rfl
    | 1, _ => rfl
    | 2, _ => rfl
    | 3, _ => rfl
    | 4, _ => rfl
    | 5, _ => rfl
  have fin : ∀ {σ : En}, sRet (eBin (oEq call) (eVar 2) (eVar 1)) [some (.ref c), some (.tup [.str (KS.getD k []), v]), some (.tup [.str (KS.getD k []), v])] S = .rt (.bl true) S := by
    simp only [sRet_ev, eBin_ev, eVar_s, eVar_0, bind_ok', oEq, eqF_self 1 ok]
    simp
  match k, hk with
  | 0, _ => rw [seq_no' (show _ = Res.ok false S by kernel_rfl), seq_no' (show _ = Res.ok false S by kernel_rfl), seq_no' (show _ = Res.ok false S by kernel_rfl)]; exact fin (σ := [])
  | 1, _ => rw [seq_no' (show _ = Res.ok false S by kernel_rfl), seq_no' (show _ = Res.ok false S by kernel_rfl), seq_no' (show _ = Res.ok false S by kernel_rfl)]; exact fin (σ := [])
  | 2, _ => rw [seq_no' (show _ = Res.ok false S by kernel_rfl), seq_no' (show _ = Res.ok false S by kernel_rfl), seq_no' (show _ = Res.ok false S by kernel_rfl)]; exact fin (σ := [])
  | 3, _ => rw [seq_no' (show _ = Res.ok false S by kernel_rfl), seq_no' (show _ = Res.ok false S by kernel_rfl), seq_no' (show _ = Res.ok false S by kernel_rfl)]; exact fin (σ := [])
  | 4, _ => rw [seq_no' (show _ = Res.ok false S by kernel_rfl), seq_no' (show _ = Res.ok false S by kernel_rfl), seq_no' (show _ = Res.ok false S by kernel_rfl)]; exact fin (σ := [])
  | 5, _ => rw [seq_no' (show _ = Res.ok false S by kernel_rfl), seq_no' (show _ = Res.ok false S by kernel_rfl), seq_no' (show _ = Res.ok false S by kernel_rfl)]; exact fin (σ := [])
theorem like_ok : ∀ (F : Form) (n c : Nat), AA F → dp F + 1 < n → CondAt S c F → run n 14 [.ref c, fd F] S = .ok (.bl true) S
  | F, 0, _, _, h, _ => absurd h (by omega)
  | F, 1, _, _, h, _ => absurd h (by omega)
  | .any, n + 2, c, h, _, _ => h.elim
  | .nt f, n + 2, c, h, _, _ => h.elim
  | .or f g, n + 2, c, h, _, _ => h.elim
  | .an f g, n + 2, c, h, hm, ⟨a, b, hc, ka, kb⟩ => by
    rw [run_14]
    unfold fd
    rw [l_an (like_ok f (n + 1) a h.1 (by unfold dp at hm; omega) ka) (like_ok g (n + 1) b h.2 (by unfold dp at hm; omega) kb) (parts_ok (n := n) hc)]
    rfl
  | .atm k v, n + 2, c, h, hm, hc => by
    rw [run_14]
    unfold fd
    rw [l_atm h.1 h.2 (parts_ok (n := n) hc)]
    rfl
abbrev DrQ (S : Store) (i : Nat) (P : D → Prop) : D → Store → Prop := fun d S2 => P d ∧ Pool S2 i ∧ Fr S S2 i
theorem draw_int {w : Int} (hp : Pool S i) (w0 : 0 < w) (w1 : w < 2 ^ 31) {Q : D → Store → Prop} (h : ∀ r S2, 0 ≤ r → r < w → Pool S2 i → Fr S S2 i → Q (.int r) S2) : (run (n + 1) 10 [.ref i, .int w] S).sat Q E :=
  (tk (n := n) hp w0 w1).imp (fun v S2 ⟨r, hv, r0, r1, hp2, f2, _⟩ => hv ▸ h r S2 r0 r1 hp2 f2) fun _ _ h => h
theorem pick_at {xs : List (List Nat)} {r m : Int} (hx : ∀ x ∈ xs, Txt x) (hm : (xs.length : Int) = m) (r0 : 0 ≤ r) (r1 : r < m) : ∃ x, x ∈ xs ∧ Txt x ∧ itemF (.lv (xs.map D.str)) (.int r) S = .ok (.str x) S := by
  obtain ⟨x, h1, h2⟩ := pick (S := S) (xs := xs.map D.str) (r := r) (m := m) (by rw [List.length_map]; exact hm) r0 r1
  obtain ⟨y, hy, rfl⟩ := List.mem_map.mp h1
  exact ⟨y, hy, hx y hy, h2⟩
abbrev sorts : List (List Nat) := [[104, 105, 116], [109, 105, 115, 115], [99, 114, 111, 119, 100, 101, 100], [98, 97, 99, 107], [116, 104, 114, 111, 119, 110]]
abbrev arrs : List (List Nat) := [[97], [98]]
abbrev rws : List (List Nat) := [[114, 101, 97, 100], [119, 114, 105, 116, 101]]
theorem t_sorts : ∀ x ∈ sorts, Txt x := fun x h => by
  simp only [List.mem_cons, List.not_mem_nil, or_false] at h
  rcases h with rfl | rfl | rfl | rfl | rfl <;> exact Txt.all rfl
theorem t_arrs : ∀ x ∈ arrs, Txt x := fun x h => by
  simp only [List.mem_cons, List.not_mem_nil, or_false] at h
  rcases h with rfl | rfl <;> exact Txt.all rfl
theorem t_rws : ∀ x ∈ rws, Txt x := fun x h => by
  simp only [List.mem_cons, List.not_mem_nil, or_false] at h
  rcases h with rfl | rfl <;> exact Txt.all rfl
/-- a row drawn -/
theorem row_ok (hp : Pool S i) : (run (n + 2) 15 [.ref i] S).sat (DrQ S i fun d => ∃ r, d = .tup r ∧ Row r) E := by
  rw [run_15]
  refine sat_fin ?_
  unfold m_15
  have g1 : ∀ {σ : En} {S : Store}, eLv [eC (.str [104, 105, 116]), eC (.str [109, 105, 115, 115]), eC (.str [99, 114, 111, 119, 100, 101, 100]), eC (.str [98, 97, 99, 107]), eC (.str [116, 104, 114, 111, 119, 110])] σ S = .ok (.lv (sorts.map D.str)) S := rfl
  have g2 : ∀ {σ : En} {S : Store}, eLv [eC (.str [97]), eC (.str [98])] σ S = .ok (.lv (arrs.map D.str)) S := rfl
  have g3 : ∀ {σ : En} {S : Store}, eLv [eC (.str [114, 101, 97, 100]), eC (.str [119, 114, 105, 116, 101])] σ S = .ok (.lv (rws.map D.str)) S := rfl
  have ep : ∀ {S : Store}, powI (.int 10) (.int 9) S = .ok (.int (10 ^ 9)) S := fun {S} => rfl
  rw [sat_seq, sat_set]
  simp only [eBin_ev, g1, bind_ok', eFn_ev, aList_cons, aList_nil, eVar_0, eC_ev, sat_bind]
  refine draw_int (n := n) hp (by omega) (by omega) fun r1 S1 a0 a1 hp1 f1 => ?_
  obtain ⟨so, hso, tso, eso⟩ := pick_at (S := S1) t_sorts (m := 5) rfl a0 a1
  rw [eso]
  simp only [sat_ok, List.set_cons_succ, List.set_cons_zero, sat_seq, sat_par, eFn_ev, aList_cons, aList_nil, eVar_0, eC_ev, eBin_ev, bind_ok', ep]
  refine draw_int (n := n) hp1 (by omega) (by omega) fun r2 S2 b0 b1 hp2 f2 => ?_
  refine draw_int (n := n) hp2 (by omega) (by omega) fun r3 S3 c0 c1 hp3 f3 => ?_
  have tb : Txt [98, 97, 99, 107] := Txt.all rfl
  have tt : Txt [116, 104, 114, 111, 119, 110] := Txt.all rfl
  have f13 := (f1.trans f2).trans f3
  simp only [List.set_cons_succ, List.set_cons_zero, sat_if, tOf_ev, eBin_ev, eVar_s, eVar_0, eC_ev, bind_ok', oEq, eqF_str tso tb, sat_ok]
  cases hb : (so == ([98, 97, 99, 107] : List Nat)) with
  | true =>
    simp only [if_true, sat_ret, eTup_ev, aList_cons, aList_nil, eVar_s, eVar_0, eC_ev, bind_ok', sat_ok]
    refine ⟨⟨_, rfl, rfl, fun x hx => ?_⟩, hp3, f13⟩
    simp only [List.mem_cons, List.not_mem_nil, or_false] at hx
    rcases hx with rfl | rfl | rfl | rfl | rfl | rfl | rfl
    · exact .str _ tso
    · exact .int _
    · exact .non
    · exact .non
    · exact .non
    · exact .non
    · exact .int _
  | false =>
    simp only [Bool.false_eq_true, if_false, sat_next, sat_seq, sat_set, eIf_ev, tOf_ev, eBin_ev, eVar_s, eVar_0, eC_ev, bind_ok', oEq, eqF_str tso tt]
    have rest : ∀ (la : D) (S4 : Store), At la → Pool S4 i → Fr S S4 i → (eFn (run (n + 1) 10) (aList [eVar 0, eC (.int 5)]) [some (.ref i), some (.str so), some (.int r2), some (.int r3), some la, none] S4).sat (fun d S5 => (sRet (eTup [eVar 1, eVar 2, eVar 5, eVar 4, eBin itemF (eLv [eC (.str [97]), eC (.str [98])]) (eFn (run (n + 1) 10) (aList [eVar 0, eC (.int 2)])), eBin itemF (eLv [eC (.str [114, 101, 97, 100]), eC (.str [119, 114, 105, 116, 101])]) (eFn (run (n + 1) 10) (aList [eVar 0, eC (.int 2)])), eVar 3]) [some (.ref i), some (.str so), some (.int r2), some (.int r3), some la, some d] S5).sat
        ⟨fun _ _ => False, DrQ S i fun d => ∃ r, d = .tup r ∧ Row r, E, fun _ _ => False, fun _ _ => False⟩) E := by
      intro la S4 hla hp4 f4
      simp only [eFn_ev, aList_cons, aList_nil, eVar_0, eC_ev, bind_ok']
      refine draw_int (n := n) hp4 (by omega) (by omega) fun r5 S5 d0 d1 hp5 f5 => ?_
      simp only [sat_ret, eTup_ev, aList_cons, aList_nil, eVar_s, eVar_0, eC_ev, eBin_ev, g2, g3, eFn_ev, bind_ok', sat_bind]
      refine draw_int (n := n) hp5 (by omega) (by omega) fun r6 S6 e0 e1 hp6 f6 => ?_
      obtain ⟨ar, har, tar, ear⟩ := pick_at (S := S6) t_arrs (m := 2) rfl e0 e1
      rw [ear]
      simp only [sat_ok, sat_bind]
      refine draw_int (n := n) hp6 (by omega) (by omega) fun r7 S7 x0 x1 hp7 f7 => ?_
      obtain ⟨rw', hrw, trw, erw⟩ := pick_at (S := S7) t_rws (m := 2) rfl x0 x1
      rw [erw]
      simp only [sat_ok]
      refine ⟨⟨_, rfl, rfl, fun x hx => ?_⟩, hp7, ((f4.trans f5).trans f6).trans f7⟩
      simp only [List.mem_cons, List.not_mem_nil, or_false] at hx
      rcases hx with rfl | rfl | rfl | rfl | rfl | rfl | rfl
      · exact .str _ tso
      · exact .int _
      · exact .int _
      · exact hla
      · exact .str _ tar
      · exact .str _ trw
      · exact .int _
    cases ht : (so == ([116, 104, 114, 111, 119, 110] : List Nat)) with
    | true =>
      simp only [if_true, eFn_ev, aList_cons, aList_nil, eVar_0, eC_ev, bind_ok']
      refine draw_int (n := n) hp3 (by omega) (by omega) fun r4 S4 d0 d1 hp4 f4 => ?_
      simp only [List.set_cons_succ, List.set_cons_zero]
      have z := rest (.int r4) S4 (.int _) hp4 (f13.trans f4)
      simp only [eFn_ev, aList_cons, aList_nil, eVar_0, eC_ev, bind_ok'] at z
      exact z.imp (fun d S5 h => h.imp (fun _ _ h => h.elim) (fun _ _ h => h) (fun _ _ h => h) (fun _ _ h => h.elim) (fun _ _ h => h.elim)) fun _ _ h => h
    | false =>
      simp only [Bool.false_eq_true, if_false, sat_ok, List.set_cons_succ, List.set_cons_zero, eFn_ev, aList_cons, aList_nil, eVar_0, eC_ev, bind_ok']
      have z := rest .non S3 .non hp3 f13
      simp only [eFn_ev, aList_cons, aList_nil, eVar_0, eC_ev, bind_ok'] at z
      exact z.imp (fun d S5 h => h.imp (fun _ _ h => h.elim) (fun _ _ h => h) (fun _ _ h => h) (fun _ _ h => h.elim) (fun _ _ h => h.elim)) fun _ _ h => h
end
end L2.Mi.Pg

set_option Elab.async false
set_option linter.all false
set_option maxRecDepth 100000
set_option maxHeartbeats 1000000
namespace L2.Mi.Pg
open PySem
section
variable {S : Store} {n i q : Nat} {E : Xn → Store → Prop}
abbrev FmQ (m : Nat) (d : D) : Prop := ∃ F, d = fd F ∧ FOk F ∧ dp F ≤ m
theorem ap_step {σ : En} {W : Wt} {w : List Nat} {m : ME} {ds : List D} (hs : σ[2]? = some (some (.ref q))) (hq : S.get q = some (.lst ds)) (hl : ds.length < 10)
    (h : (m σ S).sat (fun v S2 => S2.get q = some (.lst ds) ∧ W.n σ (S2.set q (.lst (ds ++ [.tup [.str w, v]])))) W.e) : (sDrop (eBm isLst appendF (eVar 2) (aList [eTup [eC (.str w), m]])) σ S).sat W := by
  have e2 : eVar 2 σ S = .ok (.ref q) S := eVar_at hs
  have ck : isLst (.ref q) S = true := by unfold isLst; rw [listAt_ref hq]; rfl
  rw [sat_drop]
  unfold eBm
  rw [e2, bind_ok', if_pos ck]
  simp only [aList_cons, aList_nil, eTup_ev, eC_ev, bind_ok']
  cases q1 : m σ S with
  | bad => rw [q1] at h; exact h.elim
  | exc x S2 => rw [q1] at h; exact h
  | ok v S2 =>
    rw [q1] at h
    obtain ⟨hq2, hn⟩ := (show S2.get q = some (.lst ds) ∧ W.n σ (S2.set q (.lst (ds ++ [.tup [.str w, v]]))) from h)
    simp only [bind_ok', appendF_ev hq2 (by omega : ds.length < 900000), sat_ok]
    exact hn
/-- what stands while atoms are drawn -/
structure AtI (S0 S : Store) (i q m : Nat) : Prop where
  ex : ∃ ds, S.get q = some (.lst ds) ∧ ds.length = m ∧ ∀ d ∈ ds, FmQ 0 d
  pool : Pool S i
  fr : Fr S0 S i
theorem AtI.put {S0 S S2 : Store} {m k : Nat} {ds : List D} {v : D} (hi : i < S0.size) (hq0 : S0.size ≤ q) (hq : S2.get q = some (.lst ds)) (hl : ds.length = m) (hd : ∀ d ∈ ds, FmQ 0 d) (hp : Pool S2 i) (hf : Fr S0 S2 i) (hk : k < 6) (hv : At v) :
    AtI S0 (S2.set q (.lst (ds ++ [.tup [.str (KS.getD k []), v]]))) i q (m + 1) := by
  refine ⟨⟨_, Store.get_set_same (Store.get_lt hq), by simp [hl], fun d h => ?_⟩, hp.keep (Store.get_set_ne (by omega)), hf.set_new hq0⟩
  rcases List.mem_append.mp h with h | h
  · exact hd d h
  · rw [List.mem_singleton] at h
    exact ⟨.atm k v, h, ⟨hk, hv⟩, Nat.le_refl _⟩
/-- one atom more, its value a number drawn -/
theorem ap_int {S0 : Store} {σ : En} {W : Wt} {k m : Nat} {w : Int} {l : List Nat} (hk : k < 6) (hw : KS.getD k [] = l) (hm : m < 9) (hi : i < S0.size) (hq0 : S0.size ≤ q) (h0 : σ[0]? = some (some (.ref i))) (h2 : σ[2]? = some (some (.ref q))) (A : AtI S0 S i q m) (w0 : 0 < w) (w1 : w < 2 ^ 31)
    (h : ∀ S2, AtI S0 S2 i q (m + 1) → W.n σ S2) : (sDrop (eBm isLst appendF (eVar 2) (aList [eTup [eC (.str l), eFn (run (n + 1) 10) (aList [eVar 0, eC (.int w)])]])) σ S).sat W := by
  subst hw
  obtain ⟨⟨ds, hq, hl, hd⟩, hp, hf⟩ := A
  refine ap_step h2 hq (by omega) ?_
  have e0 : ∀ {S : Store}, eVar 0 σ S = .ok (.ref i) S := fun {S} => eVar_at h0
  simp only [eFn_ev, aList_cons, aList_nil, e0, eC_ev, bind_ok']
  refine draw_int (n := n) hp w0 w1 fun r S2 _ _ hp2 f2 => ?_
  have hq2 : S2.get q = some (.lst ds) := f2.get hq (by omega)
  exact ⟨hq2, h _ (AtI.put (S := S) hi hq0 hq2 hl hd hp2 (hf.trans f2) hk (.int r))⟩
theorem ap_str {S0 : Store} {σ : En} {W : Wt} {k m : Nat} {w : Int} {l : List Nat} {xs : List (List Nat)} {ml : ME} (hk : k < 6) (hw : KS.getD k [] = l) (hx : ∀ x ∈ xs, Txt x) (hxl : (xs.length : Int) = w) (hml : ∀ S, ml σ S = .ok (.lv (xs.map D.str)) S) (hm : m < 9) (hi : i < S0.size) (hq0 : S0.size ≤ q) (h0 : σ[0]? = some (some (.ref i))) (h2 : σ[2]? = some (some (.ref q))) (A : AtI S0 S i q m) (w0 : 0 < w) (w1 : w < 2 ^ 31)
    (h : ∀ S2, AtI S0 S2 i q (m + 1) → W.n σ S2) : (sDrop (eBm isLst appendF (eVar 2) (aList [eTup [eC (.str l), eBin itemF ml (eFn (run (n + 1) 10) (aList [eVar 0, eC (.int w)]))]])) σ S).sat W := by
  subst hw
  obtain ⟨⟨ds, hq, hl, hd⟩, hp, hf⟩ := A
  refine ap_step h2 hq (by omega) ?_
  have e0 : ∀ {S : Store}, eVar 0 σ S = .ok (.ref i) S := fun {S} => eVar_at h0
  simp only [eBin_ev, hml, eFn_ev, aList_cons, aList_nil, e0, eC_ev, bind_ok', sat_bind]
  refine draw_int (n := n) hp w0 w1 fun r S2 r0 r1 hp2 f2 => ?_
  obtain ⟨x, _, tx, ex⟩ := pick_at (S := S2) hx (m := w) hxl r0 r1
  rw [ex]
  have hq2 : S2.get q = some (.lst ds) := f2.get hq (by omega)
  exact ⟨hq2, h _ (AtI.put (S := S) hi hq0 hq2 hl hd hp2 (hf.trans f2) hk (.str x tx))⟩
theorem atoms_ok (hp : Pool S i) : (run (n + 2) 11 [.ref i] S).sat (fun d S2 => ∃ q ds, d = .ref q ∧ S2.get q = some (.lst ds) ∧ ds.length = 7 ∧ (∀ d ∈ ds, FmQ 0 d) ∧ q ≠ i ∧ Pool S2 i ∧ Fr S S2 i) E := by
  rw [run_11]
  refine sat_fin ?_
  unfold m_11
  have hi := hp.lt
  have g1 : ∀ {σ : En} {S : Store}, eLv [eC (.str [104, 105, 116]), eC (.str [109, 105, 115, 115]), eC (.str [99, 114, 111, 119, 100, 101, 100]), eC (.str [98, 97, 99, 107]), eC (.str [116, 104, 114, 111, 119, 110])] σ S = .ok (.lv (sorts.map D.str)) S := rfl
  have g0 : ∀ {σ : En} {S : Store}, eLst [] σ S = .ok (.ref S.size) (S.push (.lst [])) := rfl
  rw [sat_seq, sat_par, g1, sat_ok, g0, sat_ok]
  simp only [List.set_cons_succ, List.set_cons_zero]
  have A0 : AtI S (S.push (.lst [])) i S.size 0 := ⟨⟨[], Store.get_push_same, rfl, fun d h => absurd h List.not_mem_nil⟩, hp.push, Fr.push⟩
  rw [sat_seq]
  refine ap_str (n := n) (k := 0) (xs := sorts) (by omega) rfl t_sorts rfl (fun S => rfl) (by omega) hi (Nat.le_refl _) rfl rfl A0 (by omega) (by omega) fun S1 A1 => ?_
  dsimp only
  rw [sat_seq]
  refine ap_int (n := n) (k := 1) (by omega) rfl (by omega) hi (Nat.le_refl _) rfl rfl A1 (by omega) (by omega) fun S2 A2 => ?_
  dsimp only
  rw [sat_seq]
  refine ap_int (n := n) (k := 2) (by omega) rfl (by omega) hi (Nat.le_refl _) rfl rfl A2 (by omega) (by omega) fun S3 A3 => ?_
  dsimp only
  rw [sat_seq]
  refine ap_int (n := n) (k := 3) (by omega) rfl (by omega) hi (Nat.le_refl _) rfl rfl A3 (by omega) (by omega) fun S4 A4 => ?_
  dsimp only
  rw [sat_seq]
  refine ap_str (n := n) (k := 4) (xs := arrs) (by omega) rfl t_arrs rfl (fun S => rfl) (by omega) hi (Nat.le_refl _) rfl rfl A4 (by omega) (by omega) fun S5 A5 => ?_
  dsimp only
  rw [sat_seq]
  refine ap_str (n := n) (k := 5) (xs := rws) (by omega) rfl t_rws rfl (fun S => rfl) (by omega) hi (Nat.le_refl _) rfl rfl A5 (by omega) (by omega) fun S6 A6 => ?_
  dsimp only
  obtain ⟨⟨ds, hq, hl, hd⟩, hp6, hf6⟩ := A6
  have ec : oAdd (run (n + 1)) (.ref S.size) (.lv [.tup [.str wANY]]) S6 = .ok (.ref S6.size) (S6.push (.lst (ds ++ [.tup [.str wANY]]))) := by
    have h1 : addF noOwn (.ref S.size) (.lv [.tup [.str wANY]]) S6 = .bad := rfl
    unfold oAdd opOr orB
    rw [h1]
    have h2 : lsN S6 (.ref S.size) = some ds := by unfold lsN; simp only [hq]
    have h3 : lsN S6 (.lv [.tup [.str wANY]]) = some [.tup [.str wANY]] := rfl
    unfold catR
    simp only [h2, h3]
    rw [if_pos (by rw [hl]; decide)]
  have g9 : ∀ {σ : En} {S : Store}, eLv [eTup [eC (.str [97, 110, 121])]] σ S = .ok (.lv [.tup [.str wANY]]) S := rfl
  simp only [sat_ret, eBin_ev, eVar_s, eVar_0, g9, bind_ok', ec, sat_ok]
  have hs6 := hp6.lt
  refine ⟨S6.size, _, rfl, Store.get_push_same, by simp [hl], fun d h => ?_, by omega, hp6.push, hf6.push_new⟩
  rcases List.mem_append.mp h with h | h
  · exact hd d h
  · rw [List.mem_singleton] at h
    exact ⟨.any, h, trivial, Nat.le_refl _⟩
theorem form_one (d : Nat) (hp : Pool S i) (rcc : ∀ d2, d = d2 + 1 → ∀ S2, Pool S2 i → (run (n + d + 2) 12 [.ref i, .int (d2 : Int)] S2).sat (DrQ S2 i (FmQ d2)) E) : (run (n + d + 3) 12 [.ref i, .int (d : Int)] S).sat (DrQ S i (FmQ d)) E := by
    rw [show n + d + 3 = (n + d + 2) + 1 by omega, run_12]
    refine sat_fin ?_
    unfold m_12
    rw [sat_seq, sat_set]
    simp only [eFn_ev, aList_cons, aList_nil, eVar_0, eC_ev, bind_ok']
    refine draw_int (n := n + d + 1) hp (by omega) (by omega) fun r S1 r0 r1 hp1 f1 => ?_
    simp only [List.set_cons_succ, List.set_cons_zero]
    -- a leaf
    have leaf : ((eBin itemF (eFn (run (n + d + 2) 11) (aList [eVar 0])) (eFn (run (n + d + 2) 10) (aList [eVar 0, eC (.int 7)]))) [some (.ref i), some (.int (d : Int)), some (.int r)] S1).sat (DrQ S i (FmQ d)) E := by
      simp only [eBin_ev, eFn_ev, aList_cons, aList_nil, eVar_0, eC_ev, bind_ok', sat_bind]
      refine (atoms_ok (n := n + d) hp1).imp (fun a S2 ⟨q, ds, ha, hq, hl, hd, hqi, hp2, f2⟩ => ?_) fun _ _ h => h
      subst ha
      refine draw_int (n := n + d + 1) hp2 (by omega) (by omega) fun r2 S3 x0 x1 hp3 f3 => ?_
      have hq3 : S3.get q = some (.lst ds) := f3.get hq hqi
      have hr : r2.toNat < ds.length := by omega
      have ei : itemF (.ref q) (.int r2) S3 = .ok ds[r2.toNat] S3 := by
        have z := atI_nat (xs := ds) (k := r2.toNat) (x := ds[r2.toNat]) (List.getElem?_eq_getElem hr)
        rw [Int.toNat_of_nonneg x0] at z
        exact itemF_seq (xs := ds) (seqAt_list (listAt_ref hq3)) z
      rw [ei]
      obtain ⟨F, e1, e2, e3⟩ := hd _ (List.getElem_mem hr)
      exact ⟨⟨F, e1, e2, by omega⟩, hp3, (f1.trans f2).trans f3⟩
    rw [sat_seq, sat_if]
    have e0 : oEq (run (n + d + 2)) (.int (d : Int)) (.int 0) S1 = .ok (.bl ((d : Int) == 0)) S1 := eqF_int
    simp only [tOr_ev, tOf_ev, eBin_ev, eVar_s, eVar_0, eC_ev, bind_ok', e0]
    cases d with
    | zero =>
      have : (((0 : Nat) : Int) == 0) = true := rfl
      simp only [this, if_true, sat_ok, sat_ret]
      exact leaf
    | succ d =>
      have hz : (((d + 1 : Nat) : Int) == 0) = false := by simp; omega
      have e2 : oEq (run (n + (d + 1) + 2)) (.int r) (.int 2) S1 = .ok (.bl (r == 2)) S1 := eqF_int
      simp only [hz, Bool.false_eq_true, if_false, ltI_ev, bind_ok', sat_ok]
      by_cases h2 : r < 2
      · simp only [decide_eq_true h2, if_true, sat_ret]
        exact leaf
      · simp only [decide_eq_false h2, Bool.false_eq_true, if_false, sat_next, sat_seq, sat_if, tOf_ev, eBin_ev, eVar_s, eVar_0, eC_ev, bind_ok', e2, sat_ok]
        have es : ∀ {S : Store}, oSub (run (n + (d + 1) + 2)) (.int ((d + 1 : Nat) : Int)) (.int 1) S = .ok (.int (d : Int)) S := fun {S} => by
          show Res.ok (D.int (((d + 1 : Nat) : Int) - 1)) S = _
          congr 2
          omega
        have rcc := rcc d rfl
        cases h3 : (r == 2) with
        | true =>
          simp only [if_true, sat_ret, eTup_ev, aList_cons, aList_nil, eC_ev, eFn_ev, eBin_ev, eVar_s, eVar_0, bind_ok', es, sat_bind]
          refine (rcc S1 hp1).imp (fun x S2 ⟨⟨F, hx, hF, hd⟩, hp2, f2⟩ => ?_) fun _ _ h => h
          subst hx
          simp only [sat_ok]
          exact ⟨⟨.nt F, rfl, hF, by unfold dp; omega⟩, hp2, f1.trans f2⟩
        | false =>
          have hm : ∃ b : Bool, itemF (.lv ([wAND, wOR].map D.str)) (.int (r % 2)) S1 = .ok (.str (if b then wAND else wOR)) S1 := by
            rcases (show r % 2 = 0 ∨ r % 2 = 1 by omega) with h | h
            · rw [h]; exact ⟨true, rfl⟩
            · rw [h]; exact ⟨false, rfl⟩
          obtain ⟨b, hb⟩ := hm
          have g3 : ∀ {σ : En} {S : Store}, eLv [eC (.str [97, 110, 100]), eC (.str [111, 114])] σ S = .ok (.lv ([wAND, wOR].map D.str)) S := rfl
          have em : ∀ {S : Store}, modI (.int r) (.int 2) S = .ok (.int (r % 2)) S := fun {S} => rfl
          simp only [Bool.false_eq_true, if_false, sat_next, sat_ret, eTup_ev, aList_cons, aList_nil, eC_ev, eFn_ev, eBin_ev, eVar_s, eVar_0, bind_ok', g3, em, hb, es, sat_bind]
          refine (rcc S1 hp1).imp (fun x S2 ⟨⟨F, hx, hF, hd⟩, hp2, f2⟩ => ?_) fun _ _ h => h
          subst hx
          refine (rcc S2 hp2).imp (fun x S3 ⟨⟨F2, hx, hF2, hd2⟩, hp3, f3⟩ => ?_) fun _ _ h => h
          subst hx
          simp only [sat_ok]
          cases b with
          | true => exact ⟨⟨.an F F2, rfl, ⟨hF, hF2⟩, by unfold dp; omega⟩, hp3, (f1.trans f2).trans f3⟩
          | false => exact ⟨⟨.or F F2, rfl, ⟨hF, hF2⟩, by unfold dp; omega⟩, hp3, (f1.trans f2).trans f3⟩
theorem form_ok : ∀ (d n : Nat) (S : Store), Pool S i → (run (n + d + 3) 12 [.ref i, .int (d : Int)] S).sat (DrQ S i (FmQ d)) E
  | 0, n, S, hp => form_one 0 hp fun d2 e => absurd e (by omega)
  | d + 1, n, S, hp => form_one (d + 1) hp fun d2 e S2 h2 => by
    obtain rfl : d = d2 := by omega
    have z := form_ok d n S2 h2
    rwa [show n + d + 3 = n + (d + 1) + 2 by omega] at z
end
end L2.Mi.Pg

set_option Elab.async false
set_option linter.all false
set_option maxRecDepth 100000
set_option maxHeartbeats 1000000
namespace L2.Mi.Pg
open PySem
section
variable {S : Store} {n i : Nat} {E : Xn → Store → Prop} {o0 o1 o2 o3 o4 o5 o6 o7 o8 o9 o10 o11 o12 o13 o14 : Option D} {rs : List (List D)} {F : Form} {r : List D}
theorem rows_lc (hp : Pool S i) : (eLcV (iRange1 (eC (.int 12))) (.one 5) (tYesM) (eFn (run (n + 2) 15) (aList [eVar 2])) [5] 1000 [o0, o1, some (.ref i), o3, o4, o5, o6, o7, o8, o9, o10, o11, o12, o13, o14] S).sat
    (fun d S2 => (∃ rs : List (List D), d = .lv (rs.map D.tup) ∧ rs.length = 12 ∧ ∀ r ∈ rs, Row r) ∧ Pool S2 i) E := by
  refine lc_sat (ds := ups 0 (12 : Int).toNat) (S1 := S) (fun ds acc S2 => Pool S2 i ∧ ∃ rs : List (List D), acc = rs.map D.tup ∧ rs.length + ds.length = 12 ∧ ∀ r ∈ rs, Row r) (walk_r1 (j := 12) rfl (by omega) (by omega)) (by rw [ups_len]; decide) ⟨hp, [], rfl, by rw [ups_len]; rfl, fun r h => absurd h List.not_mem_nil⟩ ?_ ?_
  · rintro d ds acc S2 ⟨hp2, rs, rfl, hl, hr⟩
    refine ⟨_, rfl, ?_⟩
    show (Res.ok true S2).sat _ _
    rw [sat_ok, if_pos rfl]
    show ((Res.ok [D.ref i] S2).bind (run (n + 2) 15)).sat _ _
    rw [bind_ok']
    refine (row_ok (n := n) hp2).imp (fun x S3 ⟨⟨r, hx, hR⟩, hp3, _⟩ => ?_) fun _ _ h => h
    subst hx
    rw [List.length_cons] at hl
    refine ⟨by rw [List.length_map]; have := lim_big; omega, hp3, rs ++ [r], by simp, by simp; omega, fun r' h' => ?_⟩
    rcases List.mem_append.mp h' with h' | h'
    · exact hr r' h'
    · rw [List.mem_singleton] at h'
      exact h' ▸ hR
  · rintro acc S2 ⟨hp2, rs, rfl, hl, hr⟩
    exact ⟨⟨rs, rfl, by simpa using hl, hr⟩, hp2⟩
theorem forms_lc (hp : Pool S i) : (eLcV (iRange1 (eC (.int 6))) (.one 5) (tYesM) (eFn (run (n + 6) 12) (aList [eVar 2, eC (.int 3)])) [5] 1000 [o0, o1, some (.ref i), o3, o4, o5, o6, o7, o8, o9, o10, o11, o12, o13, o14] S).sat
    (fun d S2 => ∃ fs : List Form, d = .lv (fs.map fd) ∧ fs.length = 6 ∧ ∀ F ∈ fs, FOk F ∧ dp F ≤ 3) E := by
  refine lc_sat (ds := ups 0 (6 : Int).toNat) (S1 := S) (fun ds acc S2 => Pool S2 i ∧ ∃ fs : List Form, acc = fs.map fd ∧ fs.length + ds.length = 6 ∧ ∀ F ∈ fs, FOk F ∧ dp F ≤ 3) (walk_r1 (j := 6) rfl (by omega) (by omega)) (by rw [ups_len]; decide) ⟨hp, [], rfl, by rw [ups_len]; rfl, fun r h => absurd h List.not_mem_nil⟩ ?_ ?_
  · rintro d ds acc S2 ⟨hp2, fs, rfl, hl, hr⟩
    refine ⟨_, rfl, ?_⟩
    show (Res.ok true S2).sat _ _
    rw [sat_ok, if_pos rfl]
    show ((Res.ok [D.ref i, D.int 3] S2).bind (run (n + 6) 12)).sat _ _
    rw [bind_ok']
    refine (form_ok (E := NoX) 3 n S2 hp2).imp (fun x S3 ⟨⟨F, hx, hF, hd⟩, hp3, _⟩ => ?_) fun _ _ h => h
    subst hx
    rw [List.length_cons] at hl
    refine ⟨by rw [List.length_map]; have := lim_big; omega, hp3, fs ++ [F], by simp, by simp; omega, fun r' h' => ?_⟩
    rcases List.mem_append.mp h' with h' | h'
    · exact hr r' h'
    · rw [List.mem_singleton] at h'
      exact h' ▸ ⟨hF, hd⟩
  · rintro acc S2 ⟨hp2, fs, rfl, hl, hr⟩
    exact ⟨fs, rfl, by simpa using hl, hr⟩
/-- a condition made and asked -/
theorem asked {mf : ME} {σ : En} {j : Nat} (hf : (mf σ S).sat (MadeQ S F) E) (hj : ∀ S, eVar j σ S = .ok (.tup r) S) (hr : Row r) (h1 : FOk F) (h2 : dp F < n) : (eCallI (dCall (run n)) mf (aList [eVar j]) σ S).sat (fun d S2 => d = .bl (holds r F) ∧ Ext S S2) E := by
  unfold eCallI
  rw [sat_bind]
  refine hf.imp (fun d S2 ⟨e, c, hd, hc⟩ => ?_) fun _ _ h => h
  subst hd
  obtain ⟨d1, g1⟩ := hc.ins
  simp only [aList_cons, aList_nil, hj, bind_ok', g1, dCall, cond_ok hr F n c h1 h2 hc, sat_ok]
  exact ⟨by trivial, e⟩
/-- what rows tell, one by one; the store grows -/
theorem told_lc {me : ME} {σ : En} {f : List D → D} {j : Nat} (hrs : ∀ r ∈ rs, Row r) (hl : rs.length < 900) (h3 : ∀ S, eVar 3 σ S = .ok (.lv (rs.map D.tup)) S) (hj : ∀ r, (TgN.one j).put (.tup r) (wipeD σ [j]) = some ((wipeD σ [j]).set j (some (.tup r))))
    (h : ∀ r S2, Row r → Ext S S2 → (me ((wipeD σ [j]).set j (some (.tup r))) S2).sat (fun d S3 => d = f r ∧ Ext S2 S3) NoX) :
    (eLcV (iSeq (eVar 3)) (.one j) (tYesM) me [j] 1000 σ S).sat (fun d S2 => d = .lv (rs.map f) ∧ Ext S S2) E := by
  refine lc_sat (ds := rs.map D.tup) (S1 := S) (fun ds acc S2 => Ext S S2 ∧ ∃ us vs : List (List D), ds = us.map D.tup ∧ acc = vs.map f ∧ rs = vs ++ us) (walk_seq (d := .lv (rs.map D.tup)) (h3 S) rfl) (by rw [List.length_map]; omega) ⟨Ext.refl S, rs, [], rfl, rfl, rfl⟩ ?_ ?_
  · rintro d ds acc S2 ⟨e, us, vs, hds, rfl, hrs2⟩
    cases us with
    | nil => cases hds
    | cons u us =>
      rw [List.map_cons] at hds
      obtain ⟨rfl, rfl⟩ := List.cons.inj hds
      refine ⟨_, hj u, ?_⟩
      show (Res.ok true S2).sat _ _
      rw [sat_ok, if_pos rfl]
      refine (h u S2 (hrs u (by rw [hrs2]; simp)) e).imp (fun x S3 ⟨hx, e2⟩ => ?_) fun _ _ h => h
      subst hx
      have hlen := congrArg List.length hrs2
      rw [List.length_append, List.length_cons] at hlen
      exact ⟨by rw [List.length_map]; have := lim_big; omega, e.trans e2, us, vs ++ [u], rfl, by simp, by simp [hrs2]⟩
  · rintro acc S2 ⟨e, us, vs, hds, rfl, hrs2⟩
    have hn : us = [] := by cases us with | nil => rfl | cons _ _ => cases hds
    subst hn
    rw [List.append_nil] at hrs2
    subst hrs2
    exact ⟨rfl, e⟩
/-- the rows for which a test holds -/
theorem some_lc {mt : MT} {σ : En} {p : List D → Bool} {j : Nat} (hrs : ∀ r ∈ rs, Row r) (hl : rs.length < 900) (h3 : ∀ S, eVar 3 σ S = .ok (.lv (rs.map D.tup)) S) (hj : ∀ r, (TgN.one j).put (.tup r) (wipeD σ [j]) = some ((wipeD σ [j]).set j (some (.tup r))))
    (hv : ∀ r S, eVar j ((wipeD σ [j]).set j (some (.tup r))) S = .ok (.tup r) S)
    (h : ∀ r S2, Row r → Ext S S2 → (mt ((wipeD σ [j]).set j (some (.tup r))) S2).sat (fun b S3 => b = p r ∧ Ext S2 S3) NoX) :
    (eLcV (iSeq (eVar 3)) (.one j) mt (eVar j) [j] 1000 σ S).sat (fun d S2 => d = .lv ((rs.filter p).map D.tup) ∧ Ext S S2) E := by
  refine lc_sat (ds := rs.map D.tup) (S1 := S) (fun ds acc S2 => Ext S S2 ∧ ∃ us vs : List (List D), ds = us.map D.tup ∧ acc = (vs.filter p).map D.tup ∧ rs = vs ++ us) (walk_seq (d := .lv (rs.map D.tup)) (h3 S) rfl) (by rw [List.length_map]; omega) ⟨Ext.refl S, rs, [], rfl, rfl, rfl⟩ ?_ ?_
  · rintro d ds acc S2 ⟨e, us, vs, hds, rfl, hrs2⟩
    cases us with
    | nil => cases hds
    | cons u us =>
      rw [List.map_cons] at hds
      obtain ⟨rfl, rfl⟩ := List.cons.inj hds
      refine ⟨_, hj u, ?_⟩
      refine (h u S2 (hrs u (by rw [hrs2]; simp)) e).imp (fun b S3 ⟨hb, e2⟩ => ?_) fun _ _ h => h
      subst hb
      have hlen := congrArg List.length hrs2
      rw [List.length_append, List.length_cons] at hlen
      have hf : (vs.filter p).length ≤ vs.length := List.length_filter_le p vs
      cases hp : p u with
      | true =>
        simp only [if_true, hv, sat_ok]
        exact ⟨by rw [List.length_map]; have := lim_big; omega, e.trans e2, us, vs ++ [u], rfl, by simp [hp], by simp [hrs2]⟩
      | false =>
        simp only [Bool.false_eq_true, if_false]
        exact ⟨e.trans e2, us, vs ++ [u], rfl, by simp [hp], by simp [hrs2]⟩
  · rintro acc S2 ⟨e, us, vs, hds, rfl, hrs2⟩
    have hn : us = [] := by cases us with | nil => rfl | cons _ _ => cases hds
    subst hn
    rw [List.append_nil] at hrs2
    subst hrs2
    exact ⟨rfl, e⟩
theorem bools_repr {f : List D → Bool} (hl : rs.length < 900) : ∃ x, Txt x ∧ ∀ S, reprF 8 [.lv (rs.map fun r => D.bl (f r))] S = .ok (.str x) S := by
  have h1 : ∀ rs : List (List D), smDs 0 (rs.map fun r => D.bl (f r)) = true := by
    intro rs
    induction rs with
    | nil => rfl
    | cons r rs ih => rw [List.map_cons]; unfold smDs; rw [ih]; rfl
  have h2 : ∀ rs : List (List D), rszs (rs.map fun r => D.bl (f r)) = rs.length * 1923 := by
    intro rs
    induction rs with
    | nil => simp [rszs]
    | cons r rs ih => rw [List.map_cons]; unfold rszs rsz; rw [ih, List.length_cons]; omega
  exact repr_lv 0 (h1 rs) (by omega) (by rw [h2]; omega)
theorem ok_rows (h : ∀ r ∈ rs, Row r) : okD 2 (.lv (rs.map D.tup)) = true := by
  have ats : ∀ xs : List D, (∀ x ∈ xs, At x) → okDs 0 xs = true := by
    intro xs hx
    induction xs with
    | nil => rfl
    | cons x xs ih => unfold okDs; rw [(hx x (by simp)).ok, ih fun y hy => hx y (by simp [hy])]; rfl
  have all : ∀ rs : List (List D), (∀ r ∈ rs, Row r) → okDs 1 (rs.map D.tup) = true := by
    intro rs h
    induction rs with
    | nil => rfl
    | cons r rs ih =>
      rw [List.map_cons]
      unfold okDs
      rw [ih fun y hy => h y (by simp [hy])]
      unfold okD
      rw [ats r (h r (by simp)).at_]
      rfl
  unfold okD
  exact all rs h
theorem filt_rows {p : List D → Bool} (h : ∀ r ∈ rs, Row r) : ∀ r ∈ rs.filter p, Row r := fun r hr => h r (List.mem_filter.mp hr).1
end
end L2.Mi.Pg

set_option Elab.async false
set_option linter.all false
set_option maxRecDepth 100000
set_option maxHeartbeats 1000000
namespace L2.Mi.Pg
open PySem
@[irreducible] def r_0 (call : Nat → FN) : MS := sSet 2 (eFn (call 9) (aList [eVar 0, eVar 1]))
@[irreducible] def r_1 (call : Nat → FN) : MS := sPar 3 4 (eLcV (iRange1 (eC (.int 12))) (.one 5) (tYesM) (eFn (call 15) (aList [eVar 2])) [5] 1000) (eLcV (iRange1 (eC (.int 6))) (.one 5) (tYesM) (eFn (call 12) (aList [eVar 2, eC (.int 3)])) [5] 1000)
@[irreducible] def r_2 (call : Nat → FN) : MS := sFor (iSeq (eVar 4)) (gName 6) (sSeq (sSet 7 (eLcV (iSeq (eVar 3)) (.one 8) (tYesM) (eCallI (dCall call) (eFn (call 17) (aList [eVar 6])) (aList [eVar 8])) [8] 1000)) (sIf (tOf (eBin (oNe call) (eFn (reprF 8) (aList [eVar 7])) (eFn (reprF 8) (aList [eLcV (iSeq (eVar 3)) (.one 8) (tYesM) (eFn (call 13) (aList [eVar 6, eVar 8])) [8] 1000])))) (sRet (eC (.bl false))) (sNext))) 1000
@[irreducible] def r_3 (call : Nat → FN) : MS := sSet 8 (eBin itemF (eVar 3) (eC (.int 0)))
@[irreducible] def r_4 (call : Nat → FN) : MS := sSet 9 (eKw [[107, 105, 110, 100], [97, 114, 114, 97, 121], [108, 101, 118, 101, 108]] (call 20) [eBin itemF (eVar 8) (eC (.int 0)), eBin itemF (eVar 8) (eC (.int 4)), eBin itemF (eVar 8) (eC (.int 1))])
@[irreducible] def r_5 (call : Nat → FN) : MS := sSet 10 (eTup [eC (.str [97, 110, 100]), eTup [eC (.str [97, 110, 100]), eTup [eC (.str [107, 105, 110, 100]), eBin itemF (eVar 8) (eC (.int 0))], eTup [eC (.str [97, 114, 114, 97, 121]), eBin itemF (eVar 8) (eC (.int 4))]], eTup [eC (.str [108, 101, 118, 101, 108]), eBin itemF (eVar 8) (eC (.int 1))]])
@[irreducible] def r_6 (call : Nat → FN) : MS := sIf (tOr (tNot (tTru (eFn (call 14) (aList [eVar 9, eVar 10])))) (tOf (eBin (isF true) (eCallI (dCall call) (eVar 9) (aList [eVar 8])) (eC (.bl true))))) (sRet (eC (.bl false))) (sNext)
@[irreducible] def r_7 (call : Nat → FN) : MS := sIf (tOr (tNot (tTru (eFn (call 14) (aList [eKw [[111, 116, 104, 101, 114]] (call 20) [eBin itemF (eVar 8) (eC (.int 3))], eTup [eC (.str [111, 116, 104, 101, 114]), eBin itemF (eVar 8) (eC (.int 3))]])))) (tOf (eBin (isF true) (eCallI (dCall call) (eKw [[111, 116, 104, 101, 114]] (call 20) [eBin itemF (eVar 8) (eC (.int 3))]) (aList [eVar 8])) (eC (.bl true))))) (sRet (eC (.bl false))) (sNext)
@[irreducible] def r_8 (call : Nat → FN) : MS := sSet 11 (eLcV (iSeq (eVar 3)) (.one 12) (tTru (eCallI (dCall call) (eKw [[97, 99, 99, 101, 115, 115], [119, 111, 114, 100]] (call 20) [eBin itemF (eVar 8) (eC (.int 2)), eBin itemF (eVar 8) (eC (.int 5))]) (aList [eVar 12]))) (eVar 12) [12] 1000)
@[irreducible] def r_9 (call : Nat → FN) : MS := sIf (tOf (eBin (oNe call) (eVar 11) (eLcV (iSeq (eVar 3)) (.one 12) (tAnd (tOf (eBin (oEq call) (eBin itemF (eVar 12) (eC (.int 2))) (eBin itemF (eVar 8) (eC (.int 2))))) (tOf (eBin (oEq call) (eBin itemF (eVar 12) (eC (.int 5))) (eBin itemF (eVar 8) (eC (.int 5)))))) (eVar 12) [12] 1000))) (sRet (eC (.bl false))) (sNext)
@[irreducible] def r_10 (call : Nat → FN) : MS := sIf (tOf (eBin (oNe call) (eLcV (iSeq (eVar 3)) (.one 12) (tTru (eCallI (dCall call) (eUn (oInv call) (eKw [[108, 101, 118, 101, 108]] (call 20) [eC (.int 1)])) (aList [eVar 12]))) (eVar 12) [12] 1000) (eLcV (iSeq (eVar 3)) (.one 12) (tOf (eBin (oNe call) (eBin itemF (eVar 12) (eC (.int 1))) (eC (.int 1)))) (eVar 12) [12] 1000))) (sRet (eC (.bl false))) (sNext)
@[irreducible] def rb (call : Nat → FN) : MS := sSeq (r_0 call) (sSeq (r_1 call) (sSeq (r_2 call) (sSeq (r_3 call) (sSeq (r_4 call) (sSeq (r_5 call) (sSeq (r_6 call) (sSeq (r_7 call) (sSeq (r_8 call) (sSeq (r_9 call) (r_10 call))))))))))
@[irreducible] def t_0 (call : Nat → FN) : MS := sSet 13 (eLst [eC (.lm 0)])
@[irreducible] def t_1 (call : Nat → FN) : MS := sDrop (eBm isLst appendF (eVar 13) (aList [eC (.lm 1)]))
@[irreducible] def t_2 (call : Nat → FN) : MS := sDrop (eBm isLst appendF (eVar 13) (aList [eC (.lm 2)]))
@[irreducible] def t_3 (call : Nat → FN) : MS := sFor (iZip2 (eVar 13) (eLv [eC (.str [108, 101, 118, 101, 108, 115]), eC (.str [116, 111, 116, 97, 108]), eC (.str [101, 118, 101, 114, 121])])) (gTup [gName 14, gName 10]) (sIf (tOf (eBin (oNe call) (eFn (call 18) (aList [eVar 14])) (eVar 10))) (sRet (eC (.bl false))) (sNext)) 1000
@[irreducible] def t_4 (call : Nat → FN) : MS := sRet (eBin (oEq call) (eFn (call 18) (aList [eC (.lm 3)])) (eC (.str [115, 112, 111, 116])))
@[irreducible] def tl (call : Nat → FN) : MS := sSeq (t_0 call) (sSeq (t_1 call) (sSeq (t_2 call) (sSeq (t_3 call) (t_4 call))))
theorem m19 {call : Nat → FN} : m_19 call = sSeq (sFor (iRange1 (eFn max2F (aList [eC (.int 1), eFn min2F (aList [eFn lenF (aList [eVar 0]), eC (.int 6)])]))) (gName 1) (rb call) 1000) (tl call) := by
  unfold rb tl r_0 r_1 r_2 r_3 r_4 r_5 r_6 r_7 r_8 r_9 r_10 t_0 t_1 t_2 t_3 t_4
  rfl
end L2.Mi.Pg

set_option Elab.async false
set_option linter.all false
set_option maxRecDepth 100000
set_option maxHeartbeats 1000000
namespace L2.Mi.Pg
open PySem
section
variable {S : Store} {n i : Nat} {o0 o1 o2 o3 o4 o5 o6 o7 o8 o9 o10 o11 o12 o13 o14 : Option D} {rs : List (List D)} {fs : List Form} {F : Form} {r : List D} {R : D → Store → Prop} {E : Xn → Store → Prop} {B C : En → Store → Prop}
theorem Res.bind_assoc' {α β γ : Type} {r : Res α} {f : α → Store → Res β} {g : β → Store → Res γ} : (r.bind f).bind g = r.bind fun a S => (f a S).bind g := Res.bind_assoc
/-- the forms, one by one -/
theorem r2_ok (hrs : ∀ r ∈ rs, Row r) (hl : rs.length = 12) (hfs : ∀ F ∈ fs, FOk F ∧ dp F ≤ 3) (hfl : fs.length = 6) :
    (r_2 (run (n + 9)) [o0, o1, o2, some (.lv (rs.map D.tup)), some (.lv (fs.map fd)), o5, o6, o7, o8, o9, o10, o11, o12, o13, o14] S).sat ⟨fun σ _ => ∃ o6 o7, σ = [o0, o1, o2, some (.lv (rs.map D.tup)), some (.lv (fs.map fd)), o5, o6, o7, o8, o9, o10, o11, o12, o13, o14], R, E, B, C⟩ := by
  unfold r_2
  refine for_sat (ds := fs.map fd) (S1 := S) (fun ds σ _ => ∃ us o6 o7, ds = us.map fd ∧ (∀ F ∈ us, FOk F ∧ dp F ≤ 3) ∧ σ = [o0, o1, o2, some (.lv (rs.map D.tup)), some (.lv (fs.map fd)), o5, o6, o7, o8, o9, o10, o11, o12, o13, o14]) (walk_seq (d := .lv (fs.map fd)) rfl rfl) (by rw [List.length_map]; omega) ⟨fs, o6, o7, rfl, hfs, rfl⟩ ?_ ?_
  · rintro d ds σ S1 ⟨us, o6, o7, hds, hus, rfl⟩
    cases us with
    | nil => cases hds
    | cons F us =>
      rw [List.map_cons] at hds
      obtain ⟨rfl, rfl⟩ := List.cons.inj hds
      obtain ⟨hF, hd⟩ := hus F (by simp)
      simp only [gName_ev, sat_ok, List.set_cons_succ, List.set_cons_zero]
      rw [sat_seq, sat_set]
      refine (told_lc (f := fun r => .bl (holds r F)) (j := 8) (E := E) hrs (by omega) (fun _ => rfl) (fun _ => rfl) (fun r S2 hr e => ?_)).imp (fun x S2 ⟨hx, _⟩ => ?_) fun _ _ h => h
      · refine asked (mf := eFn (run (n + 9) 17) (aList [eVar 6])) ?_ (fun _ => rfl) hr hF (by omega)
        show ((Res.ok [fd F] S2).bind (run (n + 9) 17)).sat _ _
        rw [bind_ok']
        exact built_ok F (n + 8) S2 hF (by omega)
      · subst hx
        simp only [List.set_cons_succ, List.set_cons_zero]
        obtain ⟨tx, htx, hre⟩ := bools_repr (rs := rs) (f := fun r => holds r F) (by omega)
        have lc := told_lc (S := S2) (f := fun r => .bl (holds r F)) (j := 8) (E := E) (me := eFn (run (n + 9) 13) (aList [eVar 6, eVar 8])) (σ := [o0, o1, o2, some (.lv (rs.map D.tup)), some (.lv (fs.map fd)), o5, some (fd F), some (.lv (rs.map fun r => .bl (holds r F))), o8, o9, o10, o11, o12, o13, o14]) hrs (by omega) (fun _ => rfl) (fun _ => rfl) (fun r S3 hr e => by
          show ((Res.ok [fd F, .tup r] S3).bind (run (n + 9) 13)).sat _ _
          rw [bind_ok', holds_ok hr F (n + 9) hF (by omega)]
          exact ⟨rfl, Ext.refl _⟩)
        rw [sat_if]
        simp only [tOf_ev, eBin_ev, eFn_ev, aList_cons, aList_nil, eVar_s, eVar_0, bind_ok', hre, sat_bind]
        refine lc.imp (fun y S3 ⟨hy, _⟩ => ?_) fun _ _ h => h
        subst hy
        simp only [sat_ok, hre, oNe, neF_str htx htx, beq_self_eq_true, Bool.not_true, Bool.false_eq_true, if_false, sat_next]
        exact ⟨us, _, _, rfl, fun F' h' => hus F' (by simp [h']), rfl⟩
  · rintro σ S1 ⟨us, o6, o7, hds, hus, rfl⟩
    exact ⟨o6, o7, rfl⟩
theorem row0 (h : rs.length = 12) (hr : ∀ r ∈ rs, Row r) : ∃ r, r ∈ rs ∧ Row r ∧ ∀ S, itemF (.lv (rs.map D.tup)) (.int 0) S = .ok (.tup r) S := by
  cases rs with
  | nil => cases h
  | cons r rs => exact ⟨r, by simp, hr r (by simp), fun S => itemF_seq (xs := (r :: rs).map D.tup) rfl (atI_nat (k := 0) rfl)⟩
/-- the three forms of a row -/
abbrev F1 (r : List D) : Form := .an (.an (.atm 0 (rf r 0)) (.atm 4 (rf r 4))) (.atm 1 (rf r 1))
abbrev F2 (r : List D) : Form := .atm 3 (rf r 3)
abbrev F3 (r : List D) : Form := .an (.atm 2 (rf r 2)) (.atm 5 (rf r 5))
abbrev F4 : Form := .nt (.atm 1 (.int 1))
theorem it (hr : Row r) (k : Nat) (hk : k < 7) {S : Store} : itemF (.tup r) (.int (k : Int)) S = .ok (rf r k) S := row_item hr hk
theorem kw_ev {kn : List (List Nat)} {m : FN} {ms : List ME} {σ : En} {ds : List D} (h : aList ms σ S = .ok ds S) : eKw kn m ms σ S = kwF kn m ds S := by
  unfold eKw
  rw [eFn_ev, h, bind_ok']
theorem kw_is {kn : List (List Nat)} {ms : List ME} {σ : En} {ds : List D} (h : aList ms σ S = .ok ds S) (kvs : List (List Nat × D)) (hk : kn = kvs.map (·.1)) (hd : ds = kvs.map (·.2)) (hn : kn.Nodup) (hl : kvs.length < 1000) (hw : wh none kvs = .inl F) : (eKw kn (run (n + 3) 20) ms σ S).sat (MadeQ S F) E := by
  rw [kw_ev h]
  subst hk hd
  exact where_is (n := n) kvs hn hl hw
theorem it0 (hr : Row r) {S : Store} : itemF (.tup r) (.int 0) S = .ok (rf r 0) S := it hr 0 (by omega)
theorem it1 (hr : Row r) {S : Store} : itemF (.tup r) (.int 1) S = .ok (rf r 1) S := it hr 1 (by omega)
theorem it2 (hr : Row r) {S : Store} : itemF (.tup r) (.int 2) S = .ok (rf r 2) S := it hr 2 (by omega)
theorem it3 (hr : Row r) {S : Store} : itemF (.tup r) (.int 3) S = .ok (rf r 3) S := it hr 3 (by omega)
theorem it4 (hr : Row r) {S : Store} : itemF (.tup r) (.int 4) S = .ok (rf r 4) S := it hr 4 (by omega)
theorem it5 (hr : Row r) {S : Store} : itemF (.tup r) (.int 5) S = .ok (rf r 5) S := it hr 5 (by omega)
theorem isT_bl {b : Bool} : isF true (.bl b) (.bl true) S = .ok (.bl (xor true (decide (b = true)))) S := rfl
theorem Row.fat (hr : Row r) (k : Nat) (hk : k < 7) : At (rf r k) := (hr.get hk).2
/-- a condition that stands, asked -/
theorem ask_at {σ : En} {c : Nat} {mf : ME} {j : Nat} (hf : mf σ S = .ok (.ref c) S) (hj : eVar j σ S = .ok (.tup r) S) (hc : CondAt S c F) (hr : Row r) (h1 : FOk F) (h2 : dp F < n) : eCallI (dCall (run n)) mf (aList [eVar j]) σ S = .ok (.bl (holds r F)) S := by
  obtain ⟨d1, g1⟩ := hc.ins
  rw [callI_ev hf g1 hj, cond_ok hr F n c h1 h2 hc]
/-- the words that where takes from a row -/
theorem r47_ok (hr : Row r) :
    (sSeq (r_4 (run (n + 9))) (sSeq (r_5 (run (n + 9))) (sSeq (r_6 (run (n + 9))) (r_7 (run (n + 9))))) [o0, o1, o2, o3, o4, o5, o6, o7, some (.tup r), o9, o10, o11, o12, o13, o14] S).sat
      ⟨fun σ _ => ∃ o9 o10, σ = [o0, o1, o2, o3, o4, o5, o6, o7, some (.tup r), o9, o10, o11, o12, o13, o14], R, E, B, C⟩ := by
  rw [sat_seq]
  unfold r_4
  rw [sat_set]
  have hk1 : FOk (F1 r) := ⟨⟨⟨by omega, hr.fat 0 (by omega)⟩, ⟨by omega, hr.fat 4 (by omega)⟩⟩, ⟨by omega, hr.fat 1 (by omega)⟩⟩
  have h1 : holds r (F1 r) = true := by
    show ((atEq _ _ && atEq _ _) && atEq _ _) = true
    rw [at_self, at_self, at_self]
    rfl
  have hk2 : FOk (F2 r) := ⟨by omega, hr.fat 3 (by omega)⟩
  have h2 : holds r (F2 r) = true := at_self _
  refine (kw_is (kn := [[107, 105, 110, 100], [97, 114, 114, 97, 121], [108, 101, 118, 101, 108]]) (n := n + 6) (F := F1 r) (E := E) (ds := [rf r 0, rf r 4, rf r 1]) (by simp only [aList_cons, aList_nil, eBin_ev, eVar_s, eVar_0, eC_ev, bind_ok', it0 hr, it1 hr, it4 hr]) [([107, 105, 110, 100], rf r 0), ([97, 114, 114, 97, 121], rf r 4), ([108, 101, 118, 101, 108], rf r 1)] rfl rfl (by decide) (by simp) rfl).imp (fun d S2 ⟨e, c, hd, hc⟩ => ?_) fun _ _ h => h
  subst hd
  simp only [List.set_cons_succ, List.set_cons_zero]
  rw [sat_seq]
  unfold r_5
  rw [sat_set]
  simp only [eTup_ev, aList_cons, aList_nil, eBin_ev, eVar_s, eVar_0, eC_ev, bind_ok', it0 hr, it1 hr, it4 hr, sat_ok, List.set_cons_succ, List.set_cons_zero]
  rw [sat_seq]
  unfold r_6
  rw [sat_if]
  have el : run (n + 9) 14 [.ref c, .tup [.str [97, 110, 100], .tup [.str [97, 110, 100], .tup [.str [107, 105, 110, 100], rf r 0], .tup [.str [97, 114, 114, 97, 121], rf r 4]], .tup [.str [108, 101, 118, 101, 108], rf r 1]]] S2 = .ok (.bl true) S2 := like_ok (F1 r) (n + 9) c hk1 (by show 2 + 1 < n + 9; omega) hc
  have ea : eCallI (dCall (run (n + 9))) (eVar 9) (aList [eVar 8]) [o0, o1, o2, o3, o4, o5, o6, o7, some (.tup r), some (.ref c), some (.tup [.str [97, 110, 100], .tup [.str [97, 110, 100], .tup [.str [107, 105, 110, 100], rf r 0], .tup [.str [97, 114, 114, 97, 121], rf r 4]], .tup [.str [108, 101, 118, 101, 108], rf r 1]]), o11, o12, o13, o14] S2 = .ok (.bl true) S2 := by
    rw [ask_at (F := F1 r) (c := c) (r := r) rfl rfl hc hr hk1 (by show 2 < n + 9; omega), h1]
  have tr : ∀ {b : Bool} {S : Store}, truD S (.bl b) = some b := fun {b S} => rfl
  have r6 : tOr (tNot (tTru (eFn (run (n + 9) 14) (aList [eVar 9, eVar 10])))) (tOf (eBin (isF true) (eCallI (dCall (run (n + 9))) (eVar 9) (aList [eVar 8])) (eC (.bl true)))) [o0, o1, o2, o3, o4, o5, o6, o7, some (.tup r), some (.ref c), some (.tup [.str [97, 110, 100], .tup [.str [97, 110, 100], .tup [.str [107, 105, 110, 100], rf r 0], .tup [.str [97, 114, 114, 97, 121], rf r 4]], .tup [.str [108, 101, 118, 101, 108], rf r 1]]), o11, o12, o13, o14] S2 = .ok false S2 := by
    simp only [tOr_ev, tNot_ev, tTru_ev, eFn_ev, aList_cons, aList_nil, eVar_s, eVar_0, bind_ok', el, tr, Bool.not_true, Bool.false_eq_true, if_false, tOf_ev, eBin_ev, ea, eC_ev, isT_bl]
    rfl
  rw [r6]
  simp only [sat_ok, Bool.false_eq_true, if_false, sat_next]
  unfold r_7
  rw [sat_if]
  have kw3 : ∀ S3, (eKw [[111, 116, 104, 101, 114]] (run (n + 9) 20) [eBin itemF (eVar 8) (eC (.int 3))] [o0, o1, o2, o3, o4, o5, o6, o7, some (.tup r), some (.ref c), some (.tup [.str [97, 110, 100], .tup [.str [97, 110, 100], .tup [.str [107, 105, 110, 100], rf r 0], .tup [.str [97, 114, 114, 97, 121], rf r 4]], .tup [.str [108, 101, 118, 101, 108], rf r 1]]), o11, o12, o13, o14] S3).sat (MadeQ S3 (F2 r)) E := fun S3 =>
    kw_is (kn := [[111, 116, 104, 101, 114]]) (n := n + 6) (F := F2 r) (ds := [rf r 3]) (by simp only [aList_cons, aList_nil, eBin_ev, eVar_s, eVar_0, eC_ev, bind_ok', it3 hr]) [([111, 116, 104, 101, 114], rf r 3)] rfl rfl (by decide) (by simp) rfl
  simp only [tOr_ev, tNot_ev, tTru_ev, eFn_ev, aList_cons, aList_nil, eVar_s, eVar_0, Res.bind_assoc', bind_ok', sat_bind, eTup_ev, eBin_ev, eC_ev, it3 hr]
  refine (kw3 S2).imp (fun d S3 ⟨e3, c3, hd3, hc3⟩ => ?_) fun _ _ h => h
  subst hd3
  have el3 : run (n + 9) 14 [.ref c3, .tup [.str [111, 116, 104, 101, 114], rf r 3]] S3 = .ok (.bl true) S3 := like_ok (F2 r) (n + 9) c3 hk2 (by show 0 + 1 < n + 9; omega) hc3
  simp only [el3, sat_ok, tr, Bool.not_true, Bool.false_eq_true, if_false, tOf_ev, eBin_ev, sat_bind]
  refine (asked (n := n + 9) (F := F2 r) (kw3 S3) (fun _ => rfl) hr hk2 (by show 0 < n + 9; omega)).imp (fun d S4 ⟨hd4, e4⟩ => ?_) fun _ _ h => h
  subst hd4
  rw [h2]
  simp only [eC_ev, bind_ok', isT_bl, sat_ok, decide_true, Bool.xor_true, Bool.not_true, Bool.false_eq_true, if_false, sat_next]
  exact ⟨_, _, rfl⟩
end
end L2.Mi.Pg

set_option Elab.async false
set_option linter.all false
set_option maxRecDepth 100000
set_option maxHeartbeats 1000000
namespace L2.Mi.Pg
open PySem
section
variable {S : Store} {n i : Nat} {o0 o1 o2 o3 o4 o5 o6 o7 o8 o9 o10 o11 o12 o13 o14 : Option D} {rs : List (List D)} {fs : List Form} {F : Form} {r : List D} {R : D → Store → Prop} {E : Xn → Store → Prop} {B C : En → Store → Prop}
theorem tru_bl {b : Bool} {S : Store} : truD S (.bl b) = some b := rfl
/-- access and word -/
theorem r89_ok (hr : Row r) (hrs : ∀ r ∈ rs, Row r) (hl : rs.length = 12) :
    (sSeq (r_8 (run (n + 9))) (r_9 (run (n + 9))) [o0, o1, o2, some (.lv (rs.map D.tup)), o4, o5, o6, o7, some (.tup r), o9, o10, o11, o12, o13, o14] S).sat
      ⟨fun σ _ => ∃ o11, σ = [o0, o1, o2, some (.lv (rs.map D.tup)), o4, o5, o6, o7, some (.tup r), o9, o10, o11, o12, o13, o14], R, E, B, C⟩ := by
  have hk3 : FOk (F3 r) := ⟨⟨by omega, hr.fat 2 (by omega)⟩, ⟨by omega, hr.fat 5 (by omega)⟩⟩
  rw [sat_seq]
  unfold r_8
  rw [sat_set]
  refine (some_lc (p := fun r' => holds r' (F3 r)) (j := 12) (E := E) hrs (by omega) (fun _ => rfl) (fun _ => rfl) (fun _ _ => rfl) (fun r' S2 hr' e => ?_)).imp (fun x S2 ⟨hx, _⟩ => ?_) fun _ _ h => h
  · rw [tTru_ev, sat_bind]
    refine (asked (n := n + 9) (F := F3 r) (S := S2) (E := NoX) (j := 12) ?_ (fun _ => rfl) hr' hk3 (by show 1 < n + 9; omega)).imp (fun d S3 ⟨hd, e3⟩ => ?_) fun _ _ h => h
    · exact kw_is (kn := [[97, 99, 99, 101, 115, 115], [119, 111, 114, 100]]) (n := n + 6) (F := F3 r) (ds := [rf r 2, rf r 5]) (by
        have z : ∀ {S : Store}, eVar 8 ((wipeD [o0, o1, o2, some (.lv (rs.map D.tup)), o4, o5, o6, o7, some (.tup r), o9, o10, o11, o12, o13, o14] [12]).set 12 (some (.tup r'))) S = .ok (.tup r) S := fun {S} => rfl
        simp only [aList_cons, aList_nil, eBin_ev, z, eC_ev, bind_ok', it2 hr, it5 hr]) [([97, 99, 99, 101, 115, 115], rf r 2), ([119, 111, 114, 100], rf r 5)] rfl rfl (by decide) (by simp) rfl
    · subst hd
      simp only [tru_bl, sat_ok]
      exact ⟨by trivial, e3⟩
  · subst hx
    simp only [List.set_cons_succ, List.set_cons_zero]
    unfold r_9
    rw [sat_if]
    simp only [tOf_ev, eBin_ev, eVar_s, eVar_0, Res.bind_assoc', bind_ok', sat_bind]
    refine (some_lc (S := S2) (p := fun r' => holds r' (F3 r)) (j := 12) (E := E) hrs (by omega) (fun _ => rfl) (fun _ => rfl) (fun _ _ => rfl) (fun r' S3 hr' e => ?_)).imp (fun x S3 ⟨hx, _⟩ => ?_) fun _ _ h => h
    · have z8 : ∀ {S : Store} {σ : En}, eVar 8 ((wipeD [o0, o1, o2, some (.lv (rs.map D.tup)), o4, o5, o6, o7, some (.tup r), o9, o10, some (.lv ((rs.filter fun r' => holds r' (F3 r)).map D.tup)), o12, o13, o14] [12]).set 12 (some (.tup r'))) S = .ok (.tup r) S := fun {S σ} => rfl
      have z12 : ∀ {S : Store} {σ : En}, eVar 12 ((wipeD [o0, o1, o2, some (.lv (rs.map D.tup)), o4, o5, o6, o7, some (.tup r), o9, o10, some (.lv ((rs.filter fun r' => holds r' (F3 r)).map D.tup)), o12, o13, o14] [12]).set 12 (some (.tup r'))) S = .ok (.tup r') S := fun {S σ} => rfl
      simp only [tAnd_ev, tOf_ev, eBin_ev, z8 (σ := []), z12 (σ := []), eC_ev, bind_ok', it2 hr, it2 hr', it5 hr, it5 hr', oEq, at_eq (hr'.fat 2 (by omega)) (hr.fat 2 (by omega)), at_eq (hr'.fat 5 (by omega)) (hr.fat 5 (by omega))]
      have hh : holds r' (F3 r) = (atEq (rf r' 2) (rf r 2) && atEq (rf r' 5) (rf r 5)) := rfl
      rw [hh]
      cases atEq (rf r' 2) (rf r 2) with
      | true => exact ⟨rfl, Ext.refl _⟩
      | false => exact ⟨rfl, Ext.refl _⟩
    · subst hx
      simp only [oNe, neF_self 2 (ok_rows (filt_rows hrs)), sat_ok, bind_ok', Bool.false_eq_true, if_false, sat_next]
      exact ⟨_, rfl⟩
/-- not the level 1 -/
theorem r10_ok (hrs : ∀ r ∈ rs, Row r) (hl : rs.length = 12) :
    (r_10 (run (n + 9)) [o0, o1, o2, some (.lv (rs.map D.tup)), o4, o5, o6, o7, o8, o9, o10, o11, o12, o13, o14] S).sat
      ⟨fun σ _ => σ = [o0, o1, o2, some (.lv (rs.map D.tup)), o4, o5, o6, o7, o8, o9, o10, o11, o12, o13, o14], R, E, B, C⟩ := by
  have hk : FOk F4 := ⟨by omega, .int 1⟩
  unfold r_10
  rw [sat_if]
  simp only [tOf_ev, eBin_ev, Res.bind_assoc', sat_bind]
  refine (some_lc (p := fun r' => holds r' F4) (j := 12) (E := E) hrs (by omega) (fun _ => rfl) (fun _ => rfl) (fun _ _ => rfl) (fun r' S2 hr' e => ?_)).imp (fun x S2 ⟨hx, _⟩ => ?_) fun _ _ h => h
  · rw [tTru_ev, sat_bind]
    refine (asked (n := n + 9) (F := F4) (S := S2) (E := NoX) (j := 12) ?_ (fun _ => rfl) hr' hk (by show 1 < n + 9; omega)).imp (fun d S3 ⟨hd, e3⟩ => ?_) fun _ _ h => h
    · rw [eUn_ev, sat_bind]
      refine (kw_is (kn := [[108, 101, 118, 101, 108]]) (n := n + 6) (F := .atm 1 (.int 1)) (E := NoX) (ds := [.int 1]) rfl [([108, 101, 118, 101, 108], .int 1)] rfl rfl (by decide) (by simp) rfl).imp (fun d S3 ⟨e3, c, hd, hc⟩ => ?_) fun _ _ h => h
      subst hd
      obtain ⟨d1, g1⟩ := hc.ins
      rw [inv_ok (n := n + 7) g1]
      exact ⟨e3.trans Ext.push, _, rfl, c, Store.get_push_same, hc.ext Ext.push⟩
    · subst hd
      simp only [tru_bl, sat_ok]
      exact ⟨by trivial, e3⟩
  · subst hx
    refine (some_lc (S := S2) (p := fun r' => holds r' F4) (j := 12) (E := E) hrs (by omega) (fun _ => rfl) (fun _ => rfl) (fun _ _ => rfl) (fun r' S3 hr' e => ?_)).imp (fun x S3 ⟨hx, _⟩ => ?_) fun _ _ h => h
    · have z12 : ∀ {S : Store} {σ : En}, eVar 12 ((wipeD [o0, o1, o2, some (.lv (rs.map D.tup)), o4, o5, o6, o7, o8, o9, o10, o11, o12, o13, o14] [12]).set 12 (some (.tup r'))) S = .ok (.tup r') S := fun {S σ} => rfl
      simp only [tOf_ev, eBin_ev, z12 (σ := []), eC_ev, bind_ok', it1 hr', oNe, at_ne (hr'.fat 1 (by omega)) (.int 1), sat_ok]
      exact ⟨rfl, Ext.refl _⟩
    · subst hx
      simp only [oNe, neF_self 2 (ok_rows (filt_rows hrs)), sat_ok, bind_ok', Bool.false_eq_true, if_false, sat_next]
/-- a round -/
theorem round_ok {ns : List Int} {k : Nat} (hk : k < 1000) (hl : ns.length ≤ 1000) :
    (rb (run (n + 9)) [some (.fl (ns.map D.int)), some (.int (k : Int)), o2, o3, o4, o5, o6, o7, o8, o9, o10, o11, o12, o13, o14] S).sat
      ⟨fun σ _ => ∃ o1 o2 o3 o4 o5 o6 o7 o8 o9 o10 o11 o12 o13 o14, σ = [some (.fl (ns.map D.int)), o1, o2, o3, o4, o5, o6, o7, o8, o9, o10, o11, o12, o13, o14], fun _ _ => False, NoX, fun _ _ => False, fun _ _ => False⟩ := by
  unfold rb
  rw [sat_seq]
  unfold r_0
  rw [sat_set]
  simp only [eFn_ev, aList_cons, aList_nil, eVar_s, eVar_0, bind_ok']
  refine (pl (n := n + 8) (S := S) hk hl).imp (fun v S1 ⟨hv, hp1, _, _⟩ => ?_) fun _ _ h => h
  subst hv
  simp only [List.set_cons_succ, List.set_cons_zero]
  rw [sat_seq]
  unfold r_1
  rw [sat_par]
  refine (rows_lc (n := n + 7) hp1).imp (fun x S2 ⟨⟨rs, hx, hl12, hrs⟩, hp2⟩ => ?_) fun _ _ h => h
  subst hx
  refine (forms_lc (n := n + 3) hp2).imp (fun x S3 ⟨fs, hx, hl6, hfs⟩ => ?_) fun _ _ h => h
  subst hx
  simp only [List.set_cons_succ, List.set_cons_zero]
  rw [sat_seq]
  refine (r2_ok (n := n) hrs hl12 hfs hl6 (R := fun _ _ => False) (E := NoX) (B := fun _ _ => False) (C := fun _ _ => False)).imp (fun σ S4 ⟨o6, o7, hσ⟩ => ?_) (fun _ _ h => h) (fun _ _ h => h) (fun _ _ h => h) (fun _ _ h => h)
  subst hσ
  dsimp only
  obtain ⟨r, _, hr, e0⟩ := row0 hl12 hrs
  rw [sat_seq]
  unfold r_3
  rw [sat_set]
  simp only [eBin_ev, eVar_s, eVar_0, eC_ev, bind_ok', e0, sat_ok, List.set_cons_succ, List.set_cons_zero]
  have s47 := r47_ok (n := n) (S := S4) (o0 := some (.fl (ns.map D.int))) (o1 := some (.int (k : Int))) (o2 := some (.ref S.size)) (o3 := some (.lv (rs.map D.tup))) (o4 := some (.lv (fs.map fd))) (o5 := o5) (o6 := o6) (o7 := o7) (o9 := o9) (o10 := o10) (o11 := o11) (o12 := o12) (o13 := o13) (o14 := o14) (R := fun _ _ => False) (E := NoX) (B := fun _ _ => False) (C := fun _ _ => False) hr
  have cut : ∀ (σ : En) (S : Store) (a b c d R2 : MS) (w : Wt), (sSeq a (sSeq b (sSeq c d)) σ S).sat { w with n := fun σ1 S1 => (R2 σ1 S1).sat w } → (sSeq a (sSeq b (sSeq c (sSeq d R2))) σ S).sat w := by
    intro σ S a b c d R2 w h
    simp only [sat_seq] at h ⊢
    exact h
  refine cut _ _ _ _ _ _ _ _ ?_
  refine s47.imp (fun σ S5 ⟨o9, o10, hσ⟩ => ?_) (fun _ _ h => h) (fun _ _ h => h) (fun _ _ h => h) (fun _ _ h => h)
  subst hσ
  dsimp only
  have cut2 : ∀ (σ : En) (S : Store) (a b R2 : MS) (w : Wt), (sSeq a b σ S).sat { w with n := fun σ1 S1 => (R2 σ1 S1).sat w } → (sSeq a (sSeq b R2) σ S).sat w := by
    intro σ S a b R2 w h
    simp only [sat_seq] at h ⊢
    exact h
  refine cut2 _ _ _ _ _ _ ?_
  refine (r89_ok (n := n) hr hrs hl12 (R := fun _ _ => False) (E := NoX) (B := fun _ _ => False) (C := fun _ _ => False)).imp (fun σ S6 ⟨o11, hσ⟩ => ?_) (fun _ _ h => h) (fun _ _ h => h) (fun _ _ h => h) (fun _ _ h => h)
  subst hσ
  dsimp only
  refine (r10_ok (n := n) hrs hl12 (R := fun _ _ => False) (E := NoX) (B := fun _ _ => False) (C := fun _ _ => False)).imp (fun σ S7 hσ => ?_) (fun _ _ h => h) (fun _ _ h => h) (fun _ _ h => h) (fun _ _ h => h)
  exact ⟨_, _, _, _, _, _, _, _, _, _, _, _, _, _, hσ⟩
end
end L2.Mi.Pg

set_option Elab.async false
set_option linter.all false
set_option maxRecDepth 100000
set_option maxHeartbeats 1000000
namespace L2.Mi.Pg
open PySem
section
variable {S : Store} {n i : Nat} {o0 o1 o2 o3 o4 o5 o6 o7 o8 o9 o10 o11 o12 o13 o14 : Option D}
theorem where_no (kvs : List (List Nat × D)) (hn : (kvs.map (·.1)).Nodup) (hl : kvs.length < 1000) {w : List Nat} (h : wh none kvs = .inr w) : ∃ S2, kwF (kvs.map (·.1)) (run (n + 3) 20) (kvs.map (·.2)) S = .exc ⟨1, [(1, .str w)]⟩ S2 ∧ Ext S S2 := by
  have z := where_ok (n := n) (S := S) kvs hn hl
  cases e : kwF (kvs.map (·.1)) (run (n + 3) 20) (kvs.map (·.2)) S with
  | ok d S2 =>
    rw [e] at z
    obtain ⟨_, F, c, h1, _⟩ := z
    rw [h] at h1
    cases h1
  | exc x S2 =>
    rw [e] at z
    obtain ⟨e2, w2, h1, rfl⟩ := z
    rw [h] at h1
    cases h1
    exact ⟨S2, rfl, e2⟩
  | bad => rw [e] at z; exact z.elim
theorem l0_run : run (n + 1) 21 [] S = lm_0 (run n) [] S := rfl
theorem l1_run : run (n + 1) 22 [] S = lm_1 (run n) [] S := rfl
theorem l2_run : run (n + 1) 23 [] S = lm_2 (run n) [] S := rfl
theorem l3_run : run (n + 1) 24 [] S = lm_3 (run n) [] S := rfl
theorem heard {j k : Nat} {w : List Nat} {S2 : Store} (hd : dLam (run n) j = some (run n k)) (h : run n k [] S = .exc ⟨1, [(1, .str w)]⟩ S2) : run (n + 1) 18 [.lm j] S = .ok (.str w) S2 := by
  rw [run_18]
  unfold m_18 sTry
  have e : sSeq (sDrop (eCallL (dLam (run n)) (eVar 0))) (sRet (eC .non)) [some (.lm j), none] S = .exc ⟨1, [(1, .str w)]⟩ [some (.lm j), none] S2 := by
    unfold sSeq sDrop eCallL
    simp only [eVar_0, bind_ok', hd, h]
  rw [e]
  kernel_rfl
abbrev wLEVELS : List Nat := [108, 101, 118, 101, 108, 115]
abbrev wTOTAL : List Nat := [116, 111, 116, 97, 108]
abbrev wEVERY : List Nat := [101, 118, 101, 114, 121]
abbrev wSPOT : List Nat := [115, 112, 111, 116]
theorem heard0 : ∃ S2, run (n + 5) 18 [.lm 0] S = .ok (.str wLEVELS) S2 ∧ Ext S S2 := by
  obtain ⟨S2, e, x⟩ := where_no (n := n) (S := S) [(wLEVELS, .int 2)] (by simp) (by simp) (w := wLEVELS) rfl
  exact ⟨S2, heard (k := 21) rfl (by rw [l0_run]; unfold lm_0; rw [kw_ev (ds := [.int 2]) rfl]; exact e), x⟩
theorem heard1 : ∃ S2, run (n + 5) 18 [.lm 1] S = .ok (.str wTOTAL) S2 ∧ Ext S S2 := by
  obtain ⟨S2, e, x⟩ := where_no (n := n) (S := S) [([108, 101, 118, 101, 108], .int 1), (wTOTAL, .int 2)] (show ([[108, 101, 118, 101, 108], wTOTAL] : List (List Nat)).Nodup by decide) (by simp) (w := wTOTAL) rfl
  exact ⟨S2, heard (k := 22) rfl (by rw [l1_run]; unfold lm_1; rw [kw_ev (ds := [.int 1, .int 2]) rfl]; exact e), x⟩
theorem heard2 : ∃ S2, run (n + 5) 18 [.lm 2] S = .ok (.str wEVERY) S2 ∧ Ext S S2 := by
  obtain ⟨S2, e, x⟩ := where_no (n := n) (S := S) [(wEVERY, .non), ([107, 105, 110, 100], .str [104, 105, 116])] (show ([wEVERY, [107, 105, 110, 100]] : List (List Nat)).Nodup by decide) (by simp) (w := wEVERY) rfl
  exact ⟨S2, heard (k := 23) rfl (by rw [l2_run]; unfold lm_2; rw [kw_ev (ds := [.non, .str [104, 105, 116]]) rfl]; exact e), x⟩
theorem heard3 : ∃ S2, run (n + 5) 18 [.lm 3] S = .ok (.str wSPOT) S2 ∧ Ext S S2 := by
  obtain ⟨S2, e, x⟩ := where_no (n := n) (S := S) [([108, 101, 118, 101, 108], .int 1), ([107, 105, 110, 100], .str [120]), (wSPOT, .int 3)] (show ([[108, 101, 118, 101, 108], [107, 105, 110, 100], wSPOT] : List (List Nat)).Nodup by decide) (by simp) (w := wSPOT) rfl
  exact ⟨S2, heard (k := 24) rfl (by rw [l3_run]; unfold lm_3; rw [kw_ev (ds := [.int 1, .str [120], .int 3]) rfl]; exact e), x⟩
abbrev doors : List D := [.lm 0, .lm 1, .lm 2]
abbrev dues : List D := [.str wLEVELS, .str wTOTAL, .str wEVERY]
theorem walk_doors {q : Nat} {σ : En} (h : eVar 13 σ S = .ok (.ref q) S) (hq : S.get q = some (.lst doors)) : WalkP (iZip2 (eVar 13) (eLv [eC (.str wLEVELS), eC (.str wTOTAL), eC (.str wEVERY)])) σ S [.tup [.lm 0, .str wLEVELS], .tup [.lm 1, .str wTOTAL], .tup [.lm 2, .str wEVERY]] S fun S => S.get q = some (.lst doors) := by
  refine ⟨zsL (.ref q) (.lv dues), ?_, fun k S2 h2 => ?_⟩
  · unfold iZip2
    have e : aList [eVar 13, eLv [eC (.str wLEVELS), eC (.str wTOTAL), eC (.str wEVERY)]] σ S = .ok [.ref q, .lv dues] S := by
      simp only [aList_cons, aList_nil, h, eLv_ev, eC_ev, bind_ok']
    rw [e, bind_ok']
    have l1 : listAt S (.ref q) = some doors := listAt_ref hq
    have l2 : listAt S (.lv dues) = some dues := rfl
    simp only [l1, l2]
  · have l1 : listAt S2 (.ref q) = some doors := listAt_ref h2
    have l2 : listAt S2 (.lv dues) = some dues := rfl
    unfold zsL
    simp only [l1, l2]
    match k with
    | 0 => rfl
    | 1 => rfl
    | 2 => rfl
    | k + 3 => simp
theorem app13 {q : Nat} {ds : List D} {d : D} {W : Wt} (hq : S.get q = some (.lst ds)) (hl : ds.length < 10) (h : W.n [o0, o1, o2, o3, o4, o5, o6, o7, o8, o9, o10, o11, o12, some (.ref q), o14] (S.set q (.lst (ds ++ [d])))) :
    (sDrop (eBm isLst appendF (eVar 13) (aList [eC d])) [o0, o1, o2, o3, o4, o5, o6, o7, o8, o9, o10, o11, o12, some (.ref q), o14] S).sat W := by
  have ck : isLst (.ref q) S = true := by unfold isLst; rw [listAt_ref hq]; rfl
  rw [sat_drop]
  unfold eBm
  simp only [eVar_s, eVar_0, bind_ok', ck, if_true, aList_cons, aList_nil, eC_ev, appendF_ev hq (by omega : ds.length < 900000), sat_ok]
  exact h
theorem tl_ok : (tl (run (n + 9)) [o0, o1, o2, o3, o4, o5, o6, o7, o8, o9, o10, o11, o12, o13, o14] S).sat ⟨fun _ _ => False, fun d _ => d = .bl true, NoX, fun _ _ => False, fun _ _ => False⟩ := by
  have tL : Txt wLEVELS := Txt.all rfl
  have tT : Txt wTOTAL := Txt.all rfl
  have tE : Txt wEVERY := Txt.all rfl
  have tS : Txt wSPOT := Txt.all rfl
  unfold tl
  rw [sat_seq]
  unfold t_0
  rw [sat_set]
  have g0 : ∀ {σ : En} {S : Store}, eLst [eC (.lm 0)] σ S = .ok (.ref S.size) (S.push (.lst [.lm 0])) := rfl
  simp only [g0, sat_ok, List.set_cons_succ, List.set_cons_zero]
  rw [sat_seq]
  unfold t_1
  have q0 : (S.push (.lst [.lm 0])).get S.size = some (.lst [.lm 0]) := Store.get_push_same
  refine app13 q0 (by simp) ?_
  dsimp only
  rw [sat_seq]
  unfold t_2
  have q1 : ((S.push (.lst [.lm 0])).set S.size (.lst ([.lm 0] ++ [.lm 1]))).get S.size = some (.lst ([.lm 0] ++ [.lm 1])) := Store.get_set_same (Store.get_lt q0)
  refine app13 q1 (by simp) ?_
  dsimp only
  have q2 : (((S.push (.lst [.lm 0])).set S.size (.lst ([.lm 0] ++ [.lm 1]))).set S.size (.lst (([.lm 0] ++ [.lm 1]) ++ [.lm 2]))).get S.size = some (.lst doors) := Store.get_set_same (Store.get_lt q1)
  generalize (((S.push (.lst [.lm 0])).set S.size (.lst ([.lm 0] ++ [.lm 1]))).set S.size (.lst (([.lm 0] ++ [.lm 1]) ++ [.lm 2]))) = S3 at q2 ⊢
  rw [sat_seq]
  unfold t_3
  refine for_satP (fun ds σ S2 => S2.get S.size = some (.lst doors) ∧ (∀ d ∈ ds, d ∈ [.tup [.lm 0, .str wLEVELS], .tup [.lm 1, .str wTOTAL], .tup [.lm 2, .str wEVERY]]) ∧ ∃ o10 o14, σ = [o0, o1, o2, o3, o4, o5, o6, o7, o8, o9, o10, o11, o12, some (.ref S.size), o14])
    (walk_doors (q := S.size) rfl q2) (fun _ _ _ h => h.1) (by simp) ⟨q2, fun d h => h, _, _, rfl⟩ ?_ ?_
  · rintro d ds σ S4 ⟨hq, hds, o10, o14, rfl⟩
    have hr : ∀ d' ∈ ds, d' ∈ [.tup [.lm 0, .str wLEVELS], .tup [.lm 1, .str wTOTAL], .tup [.lm 2, .str wEVERY]] := fun d' h => hds d' (by simp [h])
    have one : ∀ (j : Nat) (w : List Nat), Txt w → (∃ S5, run (n + 9) 18 [.lm j] S4 = .ok (.str w) S5 ∧ Ext S4 S5) → (gTup [gName 14, gName 10] (.tup [.lm j, .str w]) [o0, o1, o2, o3, o4, o5, o6, o7, o8, o9, o10, o11, o12, some (.ref S.size), o14] S4).sat
        (fun σ1 S1 => (sIf (tOf (eBin (oNe (run (n + 9))) (eFn (run (n + 9) 18) (aList [eVar 14])) (eVar 10))) (sRet (eC (.bl false))) (sNext) σ1 S1).sat ⟨fun σ S2 => S2.get S.size = some (.lst doors) ∧ (∀ d ∈ ds, d ∈ [.tup [.lm 0, .str wLEVELS], .tup [.lm 1, .str wTOTAL], .tup [.lm 2, .str wEVERY]]) ∧ ∃ o10 o14, σ = [o0, o1, o2, o3, o4, o5, o6, o7, o8, o9, o10, o11, o12, some (.ref S.size), o14], fun d _ => d = .bl true, NoX,
          fun σ S => (t_4 (run (n + 9)) σ S).sat ⟨fun _ _ => False, fun d _ => d = .bl true, NoX, fun _ _ => False, fun _ _ => False⟩,
          fun σ S2 => S2.get S.size = some (.lst doors) ∧ (∀ d ∈ ds, d ∈ [.tup [.lm 0, .str wLEVELS], .tup [.lm 1, .str wTOTAL], .tup [.lm 2, .str wEVERY]]) ∧ ∃ o10 o14, σ = [o0, o1, o2, o3, o4, o5, o6, o7, o8, o9, o10, o11, o12, some (.ref S.size), o14]⟩) NoX := by
      intro j w tw ⟨S5, e, x⟩
      have g : gTup [gName 14, gName 10] (.tup [.lm j, .str w]) [o0, o1, o2, o3, o4, o5, o6, o7, o8, o9, o10, o11, o12, some (.ref S.size), o14] S4 = .ok [o0, o1, o2, o3, o4, o5, o6, o7, o8, o9, some (.str w), o11, o12, some (.ref S.size), some (.lm j)] S4 := rfl
      rw [g, sat_ok, sat_if]
      simp only [tOf_ev, eBin_ev, eFn_ev, aList_cons, aList_nil, eVar_s, eVar_0, bind_ok', e, oNe, neF_str tw tw, beq_self_eq_true, Bool.not_true, sat_ok, Bool.false_eq_true, if_false, sat_next]
      exact ⟨x _ _ hq, hr, _, _, rfl⟩
    have hd := hds d (by simp)
    simp only [List.mem_cons, List.not_mem_nil, or_false] at hd
    rcases hd with rfl | rfl | rfl
    · exact one 0 _ tL (heard0 (n := n + 4))
    · exact one 1 _ tT (heard1 (n := n + 4))
    · exact one 2 _ tE (heard2 (n := n + 4))
  · rintro σ S4 ⟨hq, _, o10, o14, rfl⟩
    dsimp only
    unfold t_4
    obtain ⟨S5, e, _⟩ := heard3 (n := n + 4) (S := S4)
    simp only [sat_ret, eBin_ev, eFn_ev, aList_cons, aList_nil, eC_ev, bind_ok', e, oEq, eqF_str tS tS, beq_self_eq_true, sat_ok]
end
end L2.Mi.Pg
namespace Law
open PySem L2.Mi L2.Mi.Pg
theorem good (ns : List Int) (hl : ns.length ≤ 63) (hb : ∀ z ∈ ns, Builtin.Int.intBits z ≤ 1048576) : ∃ S, bodyRun 15 (L2.Mi.Pg.m_19 (L2.Mi.Pg.run 30)) [.fl (ns.map D.int)] ⟨[]⟩ = .ok (.bl true) S := by
  have h : (fin (L2.Mi.Pg.m_19 (L2.Mi.Pg.run 30) [some (.fl (ns.map D.int)), none, none, none, none, none, none, none, none, none, none, none, none, none, none] ⟨[]⟩)).sat (fun d _ => d = .bl true) NoX := by
    refine sat_fin ?_
    obtain ⟨m, em, hm⟩ := rounds_ok (ns := ns) (σ := [none, none, none, none, none, none, none, none, none, none, none, none, none, none]) (S := ⟨[]⟩) (K := 6) (by omega) (by omega) (by omega)
    rw [m19, sat_seq]
    refine for_sat (fun ds σ S' => (∃ o1 o2 o3 o4 o5 o6 o7 o8 o9 o10 o11 o12 o13 o14, σ = [some (.fl (ns.map D.int)), o1, o2, o3, o4, o5, o6, o7, o8, o9, o10, o11, o12, o13, o14]) ∧ ∀ d ∈ ds, ∃ k : Nat, d = .int (k : Int) ∧ k < 1000) (walk_r1 em (by omega) (by omega)) (by rw [ups_len]; omega) ⟨⟨_, _, _, _, _, _, _, _, _, _, _, _, _, _, rfl⟩, fun d hd => ?_⟩ ?_ ?_
    · unfold ups at hd
      obtain ⟨z, hz, rfl⟩ := List.mem_map.mp hd
      have := List.mem_range.mp hz
      exact ⟨z, by simp, by omega⟩
    · rintro d ds σ S' ⟨⟨o1, o2, o3, o4, o5, o6, o7, o8, o9, o10, o11, o12, o13, o14, rfl⟩, hd⟩
      obtain ⟨k, rfl, hk⟩ := hd d (by simp)
      simp only [gName_ev, sat_ok, List.set_cons_succ, List.set_cons_zero]
      exact (round_ok (n := 21) hk (by omega)).imp (fun σ S5 h => ⟨h, fun d hd' => hd d (by simp [hd'])⟩) (fun _ _ h => h.elim) (fun _ _ h => h.elim) (fun _ _ h => h.elim) (fun _ _ h => h.elim)
    · rintro σ S' ⟨⟨o1, o2, o3, o4, o5, o6, o7, o8, o9, o10, o11, o12, o13, o14, rfl⟩, _⟩
      exact (tl_ok (n := 21)).imp (fun _ _ h => h.elim) (fun _ _ h => h) (fun _ _ h => h.elim) (fun _ _ h => h.elim) (fun _ _ h => h.elim)
  obtain ⟨a, S, e, rfl⟩ := sat_ex h
  exact ⟨S, e⟩
end Law

open PySem PySem.W PySem.Calls PyProof.Rows L2.Mi
set_option maxRecDepth 100000 in
set_option maxHeartbeats 0 in
theorem PySem.Challenge.cw_farmisses_k83_conditions_on_rows_holds : PySem.Challenge.rw_farmisses_k83_conditions_on_rows.Holds := by
  w_on; o_law
  refine HandSHeadRun.head_any (r := OpenLaw.row PySem.Challenge.rw_farmisses_k83_conditions_on_rows) (q := view (OpenLaw.row PySem.Challenge.rw_farmisses_k83_conditions_on_rows).prog [19]) (H := L2.Mi.Pg.hk) (ob := L2.Mi.Pg.ob) (M := 20000) (loose := L2.Mi.Pg.loose) (d := HandSHeadRun.topDef (OpenLaw.row PySem.Challenge.rw_farmisses_k83_conditions_on_rows).prog 19) (kwd := []) L2.Mi.Pg.ob_eq
    (by kernel_rfl) (fun s => by kernel_rfl) L2.Mi.Pg.head (by kernel_rfl) (by kernel_rfl) (by kernel_rfl) (by rfl) (by first | assumption | decide +kernel) (by decide +kernel) ⟨rfl, rfl, rfl, rfl, rfl, by decide +kernel⟩ ?hw ?hc
  case hw => w_witness2
  case hc =>
    refine walkT (l := PySem.Challenge.rw_farmisses_k83_conditions_on_rows) (n := 63) (k := lv 30 + 4) (x := "_law_script") (L := L2.Mi.Pg.L) (run := bodyRun 15 (L2.Mi.Pg.m_19 (L2.Mi.Pg.run 30))) rfl (by decide) (by kernel_rfl) ⟨rfl, by decide, by decide⟩ (dr := HandSHeadRun.topDef (OpenLaw.row PySem.Challenge.rw_farmisses_k83_conditions_on_rows).prog 19) (by kernel_rfl) 37 rfl rfl ?F Law.good
    intro w mg fa K c NS hmg0
    have hmg : mg ("law" : PySem.Str) = some (.ref fa) := by
      have e : (HandSHeadRun.topDef (OpenLaw.row PySem.Challenge.rw_farmisses_k83_conditions_on_rows).prog 19).name = ("law" : PySem.Str) := by kernel_rfl
      rw [← e]
      exact hmg0
    obtain ⟨M⟩ := c.fn 19 rfl
    have hv : M.dvs = [] := List.eq_nil_of_length_eq_zero (by rw [← (M.rd ⟨[], []⟩ fun _ => none).length]; rfl)
    have e := hmg.symm.trans (NS.glo c 0)
    cases e
    have b := L2.FunD.bindsA (ps := ["_law_script"]) (hv ▸ M.F) fun _ _ _ _ _ _ us hl => match us, hl with | [_], _ => rfl
    exact ⟨M.fd, fun s v => b s [v] rfl, fun p hp hT base _ _ TB => L2.Mi.Pg.ok_19 NS 30 (L2.Mi.Pg.all NS 30) M hp hT TB⟩
#print axioms PySem.Challenge.cw_farmisses_k83_conditions_on_rows_holds

